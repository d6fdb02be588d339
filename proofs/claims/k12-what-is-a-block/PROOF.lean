import PyProof.Rows.All
import Wide.All
import OpenK.AllK
import Wide.FinOn
import HandS.ForMost
import HandS.Wide
import HandS.ForSpec
import KE.OsGo
import Open.SpecLaws
import PyProof.EqAt
import PyProof.EqKinds
import PyProof.TupleCall
import KE.KeyNested
import KE.KDictKeyed
import HandS.Exc
import HandS.Flow
import HandS.Style
import HandS.TupMul
import HandS.TupAny
import HandS.DictEq
import HandS.StrMore
import HandS.More
import HandS.ExcOwn
import HandS.CallSlots
import HandS.ExcIs
import HandS.ExcField
import KE.KExcIs
import HandS.IsInst
import HandS.WordsDict
import HandS.SortInts
import HandS.SortOrd
import HandS.Set
import HandS.SetFor
import HandS.Strs
import PyProof.Rows.SortShellAny
import HandS.TupSets
import KE.KSortTup
import HandS.Rev
import HandS.SortKw
import KE.DataMinMax
import KE.DataFind
import HandS.Finally
import PyProof.MeetsStr3
import PyProof.StrLawsLast
import HandS.Walk
import HandS.Zip
import KE.GoesEnum
import HandS.Small
import HandS.Conv
import HandS.TryMany
import HandS.WordsExc
import HandS.EndBits
import PySem.Challenge.RW_stemshelf_k12_what_is_a_block
set_option Elab.async false
set_option linter.all false
set_option maxRecDepth 100000
section
set_option maxHeartbeats 0
open PySem PySem.W PyProof.Rows
open_top headTop for PySem.Challenge.rw_stemshelf_k12_what_is_a_block
end
namespace PySem
namespace LowX_number
open PySem.W PySem.Calls PyProof.Rows PySem.HandSPX
noncomputable def iA (p1 p2 : Pos) : Arguments := { posonlyargs := [], args := [{ arg := "self", annotation := none, pos := p1 }, { arg := "number", annotation := none, pos := p2 }], vararg := none, kwonlyargs := [], kw_defaults := [], kwarg := none, defaults := [] }
noncomputable def iB (q1 q2 q3 q4 : Pos) : List Stmt := [.Assign [.Attribute (.Name "self" q1) "number" q2] (.Name "number" q3) q4]
noncomputable def iS : Scope := { kind := .function, names := [(PySem.Str.ofString "self", .local), (PySem.Str.ofString "number", .local)], isGenerator := false, isCoroutine := false, more := [] }
/-- what the written part says of X, at C, and of its __init__, at fI -/
structure LowTxt (cn qn : Str) (K : Frag) (mg : Str → Option Value) (C fI : Addr) : Prop where
  gC : mg cn = some (.ref C)
  cls : ∃ nm q N bs bm sn sub ab col dd k0 k1 k2 k3 k5, K.lookup C = some (excClassObj nm q C N bs bm true sn sub ab col dd k0 k1 k2 k3 k5 "ValueError.__new__") ∧ refsVE bm = true
  sa : findIn K (.ref C) "__setattr__" = some (some (.builtin "object.__setattr__"))
  ga : findIn K (.ref C) "__getattribute__" = some (some (.builtin "BaseException.__getattribute__"))
  gg : findIn K (.ref C) "__getattr__" = some none
  noN : findIn K (.ref C) "number" = some none
  iC : findIn K (.ref C) "__init__" = some (some (.ref fI))
  tC : typeIn K (.ref fI) = some (.type "function")
  kC : keepIn K (.ref C) = true
  exC : subIn K (.ref C) (.type "BaseException") = some true
  tyC : typeIn K (.ref C) = some (.type "type")
  hdC : hasDictIn K C = true
  te : exmOne K (.ref C) (.ref C) = some true
  fn : ∃ (oc : Value) (od : Option Addr) (doc pm : Value) (an : Option Addr) (cdv ct : Value) (osl : Array (Option Value)) (p1 p2 q1 q2 q3 q4 : Pos),
    K.lookup fI = some ⟨oc, od, .func (fnOf "__init__" qn (iA p1 p2) (iB q1 q2 q3 q4) iS .none .none doc pm an cdv ct), osl⟩ ∧ codeIn K cdv qn = true
theorem one_size (v : Value) : [v].length ≤ sizeLine := by
  rw [sizeLine_eq]
  exact (by decide : 1 ≤ 16777216)
theorem ldC {M : Model} {s : Shared} {name : Str} {scope : Scope} {L a : Addr} {cd : Value} {m : Str → Option Value} {x : Str} {pos : Pos} {v : Value} {Q : Value → Shared → Prop} {A : Around} {E : Value → Shared → Prop} (hn : s.heap.Ns L m) (hv : m x = some v) (h : Q v s)
    (hk : scope.kind = .function := by rfl) (hl : (envOfC name scope L a cd).kindOf x = some .local := by rfl) (hd : (x == ("__debug__" : Str)) = false := by decide) :
    wpAny M A (eval (.Name x pos) (envOfC name scope L a cd)) Q E s := wpAny_Name (wpAny_loadName_local hk hl hn hv h) hd
/-- what __init__ leaves of a fresh exception at x -/
structure InitEnd (h h' : Heap) (x C dx t1 : Addr) (v : Value) : Prop where
  keep : ∀ b o, b ≠ x → h.get? b = some o → h'.get? b = some o
  obj : h'.get? x = some { cls := .ref C, dict := some dx, data := .fields #[.ref t1, .none, .none, .none, .bool false, .none] }
  dbig : h.objs.size ≤ dx
  dne : dx ≠ x
  ns : h'.Ns1 dx (fun y => if y = "number" then some v else none)
/-- a made X -/
structure OwnMade (h h' : Heap) (e C d : Addr) (v : Value) : Prop where
  keep : ∀ b o, h.get? b = some o → h'.get? b = some o
  new : h.objs.size ≤ e
  obj : ∃ oe vs, h'.get? e = some oe ∧ oe.cls = .ref C ∧ oe.dict = some d ∧ oe.data = .fields vs ∧ vs[1]? = some .none
  dbig : h.objs.size ≤ d
  dne : d ≠ e
  ns : h'.Ns1 d (fun y => if y = "number" then some v else none)
section
variable {prog : Program} {w : World} {A : Around} {E : Value → Shared → Prop} {R : Result → Shared → Prop} {s : Shared} {K : Frag} {mg : Str → Option Value} {C fI : Addr} {cn qn : Str}
theorem low_init (T : LowTxt cn qn K mg C fI) {x t0 : Addr} {v : Value} (X : K.In s.heap) (hlim : s.heap.NoLimit) (hx : s.heap.get? x = some (excO C t0)) (hnx : K.lookup x = none) (hroom : A.depth < recursionLimit)
    (hq : ∀ h' tk dx, InitEnd s.heap h' x C dx t0 v → R (.ok (.ret .none)) { s with heap := h', toks := tk }) :
    codeAny (model prog w) A (.call (.ref fI) ⟨[.ref x, v], []⟩) R s := by
  obtain ⟨oc, od, doc, pm, an, cdv, ct, osl, p1, p2, q1, q2, q3, q4, ho, hcd⟩ := T.fn
  obtain ⟨nm, q, N, bs, bm, sn, sub, ab, col, dd, k0, k1, k2, k3, k5, hC, hbm⟩ := T.cls
  have hcl : clsIn K C = some { name := nm, bases := bs, mro := .ref C :: bm, ns := N, qualname := q, hasDict := true, slotNames := sn, subclasses := sub, abstract := ab, collection := col, hasDel := false } := by unfold clsIn; rw [hC] <;> rfl
  refine Att.call_fn (binds := [("self", .ref x), ("number", v)]) X hlim ho hcd hroom (BindsTo.of_eq (by first | rfl | with_unfolding_all rfl)) (by first | rfl | decide | with_unfolding_all rfl) (fun s₁ IC => ?_) rfl rfl rfl
  obtain ⟨h₁, tk₁, rfl⟩ := IC.toInCall.same
  have k : ∀ b o, s.heap.get? b = some o → h₁.get? b = some o := IC.toInCall.keep
  have hn := IC.toInCall.ns
  have hxL : s.heap.objs.size ≠ x := Nat.ne_of_gt (Heap.lt_size hx)
  have X₁ : K.In h₁ := X.keeps k
  have hx₁ := k _ _ hx
  -- self.by = by
  show wpAny _ _ (execs _ _) _ _ _
  refine wpAny_execs_cons (plainObj_wpAny_Assign_Attribute ?_)
  refine ldC (v := v) hn (by first | rfl | with_unfolding_all rfl | kernel_rfl) (ldC (v := .ref x) hn (by first | rfl | with_unfolding_all rfl | kernel_rfl) ?_)
  refine set_plain X₁ (ox := excO C t0) (od := none) ⟨hx₁, rfl, rfl, trivial⟩ T.sa ?_
  refine exc_osa X₁ hx₁ hcl (show refsVE (.ref C :: bm) = true from hbm) rfl T.noN (fun h₃ tk₃ dx k₃ dn dne hx₃ hn₃ => ?_)
  show wpAny _ _ (execs _ _) _ _ _
  have z : s.heap.objs.size < h₁.objs.size := hn.lt
  exact wpAny_execs_nil (hq h₃ tk₃ dx ⟨fun b o hb e => k₃ b o hb (k b o e), hx₃, Nat.le_of_lt (Nat.lt_of_lt_of_le z dn), dne, hn₃⟩)
theorem low_made (T : LowTxt cn qn K mg C fI) {v : Value} (X : K.In s.heap) (hlim : s.heap.NoLimit) (hroom : A.depth + 1 < recursionLimit)
    (hq : ∀ h' tk e d, OwnMade s.heap h' e C d v → R (.ok (.ret (.ref e))) { s with heap := h', toks := tk }) :
    codeAny (model prog w) A (.call (.ref C) ⟨[v], []⟩) R s := by
  obtain ⟨nm, q, N, bs, bm, sn, sub, ab, col, dd, k0, k1, k2, k3, k5, hC, hbm⟩ := T.cls
  obtain ⟨hp, g, dr, tk, os⟩ := s
  have k : ∀ b o, hp.get? b = some o → ((hp.push (kdv_tup [v])).push (excO C hp.objs.size)).get? b = some o := fun b o e => Heap.get?_push_of_some _ (Heap.get?_push_of_some _ e)
  have hget : ((hp.push (kdv_tup [v])).push (excO C hp.objs.size)).get? (hp.objs.size + 1) = some (excO C hp.objs.size) := by heap_get
  have hnx : K.lookup (hp.objs.size + 1) = none := by
    cases e : K.lookup (hp.objs.size + 1) with
    | none => rfl
    | some o =>
      have z : hp.get? (hp.objs.size + 1) = some o := X _ _ e
      exact absurd (Nat.lt_of_succ_lt (Heap.lt_size z)) (Nat.lt_irrefl _)
  refine call_own F.excBase_ValueError (fun X => refsVE_contains X bm hbm) (X _ _ hC) (looks_findIn X T.iC) (fun self => bind_fn X self T.tC) (one_size v) ?_
  refine low_init (s := ⟨(hp.push (kdv_tup [v])).push (excO C hp.objs.size), g, dr, tk, os⟩) T (X.keeps k) (hlim.keeps k) hget hnx ?_ fun h' tk' dx ⟨k', hx, dn, dne, hns⟩ => ?_
  · show A.depth + 1 < recursionLimit
    exact hroom
  · have old : ∀ b o, hp.get? b = some o → h'.get? b = some o := fun b o e => k' b o (Nat.ne_of_lt (Nat.lt_succ_of_lt (Heap.lt_size e))) (k b o e)
    have z : hp.objs.size + 1 + 1 ≤ dx := by
      first
        | (simpa only [Heap.size_push] using dn)
        | exact dn
        | (have q := dn; rw [Heap.size_push, Heap.size_push] at q; exact q)
    exact ⟨rfl, hq h' tk' (hp.objs.size + 1) dx ⟨old, Nat.le_succ _, ⟨_, _, hx, rfl, rfl, rfl, rfl⟩, Nat.le_trans (Nat.le_trans (Nat.le_succ _) (Nat.le_succ _)) z, dne, hns⟩⟩
end
end LowX_number
end PySem
namespace L2
open PySem PySem.Spec PyProof.Rows
theorem relO_number {v : V} {v' : Value} (r : RelV v v') (f : Str) : RelO (List.lookup f [(("number" : Str), v)]) (if f = "number" then some v' else none) := by
  by_cases hw : f = "number"
  · subst hw
    rw [if_pos rfl]
    have q : List.lookup ("number" : Str) [(("number" : Str), v)] = some v := by simp [List.lookup]
    rw [q]
    exact r
  · rw [if_neg hw]
    have qw : (f == ("number" : Str)) = false := by simpa using hw
    have q2 : List.lookup f [(("number" : Str), v)] = none := by simp [List.lookup, qw]
    rw [q2]
    trivial
section
variable {X : Cx} {C fI : Addr} {cn qn : Str}
/-- X(e) -/
noncomputable def tMk_number (C : Addr) (ta : TA) : St → Hp → XK → Prop := fun σ H Q => ta σ H fun vs H1 => ∃ v, vs = [v] ∧ ∀ d, H1 d = none → Q (.ref C) (some d) (upd H1 d (.xd [(("number" : Str), v)]))
theorem pmk_number {a : Expr} {ta : TA} {p pos : Pos} {k : Nat} (T : PySem.LowX_number.LowTxt cn qn X.K X.mg C fI) (hr : Room k X.A) (ha : PA X [a] ta) (hg : Gl X cn) (hdb : (cn == ("__debug__" : Str)) = false)
    (he : starEach (a :: []) X.env = (false, eval a X.env) :: starEach [] X.env := by rfl) (hpl : (backTo pos (starEach [] X.env)).any (·.1) = false := by rfl) :
    PMk X (.Call (.Name cn p) [a] [] pos) (tMk_number C ta) := by
  intro pins s σ H Q I h
  refine wpAny_Call_Name_kw (ld_glob I hg T.gC ?_ hdb)
  refine PySem.W.callWith_K (h₀ := X.base) I.ok.mod.kin T.kC (thn (ha.run pos pins s σ H _ I h) fun us s1 hh => ?_) he hpl
  obtain ⟨vs, H1, I1, r1, v, ev, q1⟩ := hh
  subst ev
  refine ⟨I1.kIn, ?_⟩
  cases r1 with
  | cons rv rn =>
    rename_i v' us'
    cases rn
    show wpAny _ _ (call (.ref C) [v']) _ _ _
    have hlim := I1.nolimit
    obtain ⟨hp, g, dr, tk, os⟩ := s1
    refine wpAny_call (PySem.LowX_number.low_made T I1.kIn hlim (by have := hr.dp; omega) fun h' tk' e d M => ?_)
    show MkP X pins σ Q (.ref e) ⟨h', g, dr, tk', os⟩
    obtain ⟨oe, fv, hoe, hc, hd, hdat, h1⟩ := M.obj
    have hns := M.ns
    obtain ⟨G', g1, g2⟩ := restrict h' fun b => decide (b ≠ e)
    have gk : ∀ b, b ≠ e → G'.get? b = h'.get? b := fun b hb => g1 b (decide_eq_true hb)
    have ge : G'.get? e = none := g2 e (by simp)
    have old : ∀ b o, hp.get? b = some o → G'.get? b = some o := fun b o q => (gk b (Nat.ne_of_lt (Nat.lt_of_lt_of_le (Heap.lt_size q) M.new))).trans (M.keep b o q)
    have ob : ObjOk X.prog X.w (upd H1 d (.xd [(("number" : Str), v)])) G' d (.xd [(("number" : Str), v)]) :=
      ⟨_, hns.at (fun o q => (gk d M.dne).trans q), fun f => relO_number rv f⟩
    have J : Inv X pins σ (upd H1 d (.xd [(("number" : Str), v)])) ⟨G', g, dr, tk', os⟩ := I1.laid (t' := tk') old M.dbig ob
    refine ⟨e, oe, fv, ⟨G', g, dr, tk', os⟩, _, .ref C, some d, rfl, J, fun b o q => ?_, ge, hoe, ⟨hc, hd⟩, hdat, h1, ?_, rfl, I1.bare, raises_own T.exC T.tyC, q1 d (I1.hok.fresh M.dbig)⟩
    · by_cases hb : b = e
      · have q' : G'.get? b = some o := q
        rw [hb, ge] at q'; cases q'
      · exact (gk b hb).symm.trans q
    · rw [upd_ne (Ne.symm M.dne)]
      exact I1.hok.fresh M.new
end
end L2
namespace PySem
namespace LowX_name
open PySem.W PySem.Calls PyProof.Rows PySem.HandSPX
noncomputable def iA (p1 p2 : Pos) : Arguments := { posonlyargs := [], args := [{ arg := "self", annotation := none, pos := p1 }, { arg := "name", annotation := none, pos := p2 }], vararg := none, kwonlyargs := [], kw_defaults := [], kwarg := none, defaults := [] }
noncomputable def iB (q1 q2 q3 q4 : Pos) : List Stmt := [.Assign [.Attribute (.Name "self" q1) "name" q2] (.Name "name" q3) q4]
noncomputable def iS : Scope := { kind := .function, names := [(PySem.Str.ofString "self", .local), (PySem.Str.ofString "name", .local)], isGenerator := false, isCoroutine := false, more := [] }
/-- what the written part says of X, at C, and of its __init__, at fI -/
structure LowTxt (cn qn : Str) (K : Frag) (mg : Str → Option Value) (C fI : Addr) : Prop where
  gC : mg cn = some (.ref C)
  cls : ∃ nm q N bs bm sn sub ab col dd k0 k1 k2 k3 k5, K.lookup C = some (excClassObj nm q C N bs bm true sn sub ab col dd k0 k1 k2 k3 k5 "ValueError.__new__") ∧ refsVE bm = true
  sa : findIn K (.ref C) "__setattr__" = some (some (.builtin "object.__setattr__"))
  ga : findIn K (.ref C) "__getattribute__" = some (some (.builtin "BaseException.__getattribute__"))
  gg : findIn K (.ref C) "__getattr__" = some none
  noN : findIn K (.ref C) "name" = some none
  iC : findIn K (.ref C) "__init__" = some (some (.ref fI))
  tC : typeIn K (.ref fI) = some (.type "function")
  kC : keepIn K (.ref C) = true
  exC : subIn K (.ref C) (.type "BaseException") = some true
  tyC : typeIn K (.ref C) = some (.type "type")
  hdC : hasDictIn K C = true
  te : exmOne K (.ref C) (.ref C) = some true
  fn : ∃ (oc : Value) (od : Option Addr) (doc pm : Value) (an : Option Addr) (cdv ct : Value) (osl : Array (Option Value)) (p1 p2 q1 q2 q3 q4 : Pos),
    K.lookup fI = some ⟨oc, od, .func (fnOf "__init__" qn (iA p1 p2) (iB q1 q2 q3 q4) iS .none .none doc pm an cdv ct), osl⟩ ∧ codeIn K cdv qn = true
theorem one_size (v : Value) : [v].length ≤ sizeLine := by
  rw [sizeLine_eq]
  exact (by decide : 1 ≤ 16777216)
theorem ldC {M : Model} {s : Shared} {name : Str} {scope : Scope} {L a : Addr} {cd : Value} {m : Str → Option Value} {x : Str} {pos : Pos} {v : Value} {Q : Value → Shared → Prop} {A : Around} {E : Value → Shared → Prop} (hn : s.heap.Ns L m) (hv : m x = some v) (h : Q v s)
    (hk : scope.kind = .function := by rfl) (hl : (envOfC name scope L a cd).kindOf x = some .local := by rfl) (hd : (x == ("__debug__" : Str)) = false := by decide) :
    wpAny M A (eval (.Name x pos) (envOfC name scope L a cd)) Q E s := wpAny_Name (wpAny_loadName_local hk hl hn hv h) hd
/-- what __init__ leaves of a fresh exception at x -/
structure InitEnd (h h' : Heap) (x C dx t1 : Addr) (v : Value) : Prop where
  keep : ∀ b o, b ≠ x → h.get? b = some o → h'.get? b = some o
  obj : h'.get? x = some { cls := .ref C, dict := some dx, data := .fields #[.ref t1, .none, .none, .none, .bool false, .none] }
  dbig : h.objs.size ≤ dx
  dne : dx ≠ x
  ns : h'.Ns1 dx (fun y => if y = "name" then some v else none)
/-- a made X -/
structure OwnMade (h h' : Heap) (e C d : Addr) (v : Value) : Prop where
  keep : ∀ b o, h.get? b = some o → h'.get? b = some o
  new : h.objs.size ≤ e
  obj : ∃ oe vs, h'.get? e = some oe ∧ oe.cls = .ref C ∧ oe.dict = some d ∧ oe.data = .fields vs ∧ vs[1]? = some .none
  dbig : h.objs.size ≤ d
  dne : d ≠ e
  ns : h'.Ns1 d (fun y => if y = "name" then some v else none)
section
variable {prog : Program} {w : World} {A : Around} {E : Value → Shared → Prop} {R : Result → Shared → Prop} {s : Shared} {K : Frag} {mg : Str → Option Value} {C fI : Addr} {cn qn : Str}
theorem low_init (T : LowTxt cn qn K mg C fI) {x t0 : Addr} {v : Value} (X : K.In s.heap) (hlim : s.heap.NoLimit) (hx : s.heap.get? x = some (excO C t0)) (hnx : K.lookup x = none) (hroom : A.depth < recursionLimit)
    (hq : ∀ h' tk dx, InitEnd s.heap h' x C dx t0 v → R (.ok (.ret .none)) { s with heap := h', toks := tk }) :
    codeAny (model prog w) A (.call (.ref fI) ⟨[.ref x, v], []⟩) R s := by
  obtain ⟨oc, od, doc, pm, an, cdv, ct, osl, p1, p2, q1, q2, q3, q4, ho, hcd⟩ := T.fn
  obtain ⟨nm, q, N, bs, bm, sn, sub, ab, col, dd, k0, k1, k2, k3, k5, hC, hbm⟩ := T.cls
  have hcl : clsIn K C = some { name := nm, bases := bs, mro := .ref C :: bm, ns := N, qualname := q, hasDict := true, slotNames := sn, subclasses := sub, abstract := ab, collection := col, hasDel := false } := by unfold clsIn; rw [hC] <;> rfl
  refine Att.call_fn (binds := [("self", .ref x), ("name", v)]) X hlim ho hcd hroom (BindsTo.of_eq (by first | rfl | with_unfolding_all rfl)) (by first | rfl | decide | with_unfolding_all rfl) (fun s₁ IC => ?_) rfl rfl rfl
  obtain ⟨h₁, tk₁, rfl⟩ := IC.toInCall.same
  have k : ∀ b o, s.heap.get? b = some o → h₁.get? b = some o := IC.toInCall.keep
  have hn := IC.toInCall.ns
  have hxL : s.heap.objs.size ≠ x := Nat.ne_of_gt (Heap.lt_size hx)
  have X₁ : K.In h₁ := X.keeps k
  have hx₁ := k _ _ hx
  -- self.by = by
  show wpAny _ _ (execs _ _) _ _ _
  refine wpAny_execs_cons (plainObj_wpAny_Assign_Attribute ?_)
  refine ldC (v := v) hn (by first | rfl | with_unfolding_all rfl | kernel_rfl) (ldC (v := .ref x) hn (by first | rfl | with_unfolding_all rfl | kernel_rfl) ?_)
  refine set_plain X₁ (ox := excO C t0) (od := none) ⟨hx₁, rfl, rfl, trivial⟩ T.sa ?_
  refine exc_osa X₁ hx₁ hcl (show refsVE (.ref C :: bm) = true from hbm) rfl T.noN (fun h₃ tk₃ dx k₃ dn dne hx₃ hn₃ => ?_)
  show wpAny _ _ (execs _ _) _ _ _
  have z : s.heap.objs.size < h₁.objs.size := hn.lt
  exact wpAny_execs_nil (hq h₃ tk₃ dx ⟨fun b o hb e => k₃ b o hb (k b o e), hx₃, Nat.le_of_lt (Nat.lt_of_lt_of_le z dn), dne, hn₃⟩)
theorem low_made (T : LowTxt cn qn K mg C fI) {v : Value} (X : K.In s.heap) (hlim : s.heap.NoLimit) (hroom : A.depth + 1 < recursionLimit)
    (hq : ∀ h' tk e d, OwnMade s.heap h' e C d v → R (.ok (.ret (.ref e))) { s with heap := h', toks := tk }) :
    codeAny (model prog w) A (.call (.ref C) ⟨[v], []⟩) R s := by
  obtain ⟨nm, q, N, bs, bm, sn, sub, ab, col, dd, k0, k1, k2, k3, k5, hC, hbm⟩ := T.cls
  obtain ⟨hp, g, dr, tk, os⟩ := s
  have k : ∀ b o, hp.get? b = some o → ((hp.push (kdv_tup [v])).push (excO C hp.objs.size)).get? b = some o := fun b o e => Heap.get?_push_of_some _ (Heap.get?_push_of_some _ e)
  have hget : ((hp.push (kdv_tup [v])).push (excO C hp.objs.size)).get? (hp.objs.size + 1) = some (excO C hp.objs.size) := by heap_get
  have hnx : K.lookup (hp.objs.size + 1) = none := by
    cases e : K.lookup (hp.objs.size + 1) with
    | none => rfl
    | some o =>
      have z : hp.get? (hp.objs.size + 1) = some o := X _ _ e
      exact absurd (Nat.lt_of_succ_lt (Heap.lt_size z)) (Nat.lt_irrefl _)
  refine call_own F.excBase_ValueError (fun X => refsVE_contains X bm hbm) (X _ _ hC) (looks_findIn X T.iC) (fun self => bind_fn X self T.tC) (one_size v) ?_
  refine low_init (s := ⟨(hp.push (kdv_tup [v])).push (excO C hp.objs.size), g, dr, tk, os⟩) T (X.keeps k) (hlim.keeps k) hget hnx ?_ fun h' tk' dx ⟨k', hx, dn, dne, hns⟩ => ?_
  · show A.depth + 1 < recursionLimit
    exact hroom
  · have old : ∀ b o, hp.get? b = some o → h'.get? b = some o := fun b o e => k' b o (Nat.ne_of_lt (Nat.lt_succ_of_lt (Heap.lt_size e))) (k b o e)
    have z : hp.objs.size + 1 + 1 ≤ dx := by
      first
        | (simpa only [Heap.size_push] using dn)
        | exact dn
        | (have q := dn; rw [Heap.size_push, Heap.size_push] at q; exact q)
    exact ⟨rfl, hq h' tk' (hp.objs.size + 1) dx ⟨old, Nat.le_succ _, ⟨_, _, hx, rfl, rfl, rfl, rfl⟩, Nat.le_trans (Nat.le_trans (Nat.le_succ _) (Nat.le_succ _)) z, dne, hns⟩⟩
end
end LowX_name
end PySem
namespace L2
open PySem PySem.Spec PyProof.Rows
theorem relO_name {v : V} {v' : Value} (r : RelV v v') (f : Str) : RelO (List.lookup f [(("name" : Str), v)]) (if f = "name" then some v' else none) := by
  by_cases hw : f = "name"
  · subst hw
    rw [if_pos rfl]
    have q : List.lookup ("name" : Str) [(("name" : Str), v)] = some v := by simp [List.lookup]
    rw [q]
    exact r
  · rw [if_neg hw]
    have qw : (f == ("name" : Str)) = false := by simpa using hw
    have q2 : List.lookup f [(("name" : Str), v)] = none := by simp [List.lookup, qw]
    rw [q2]
    trivial
section
variable {X : Cx} {C fI : Addr} {cn qn : Str}
/-- X(e) -/
noncomputable def tMk_name (C : Addr) (ta : TA) : St → Hp → XK → Prop := fun σ H Q => ta σ H fun vs H1 => ∃ v, vs = [v] ∧ ∀ d, H1 d = none → Q (.ref C) (some d) (upd H1 d (.xd [(("name" : Str), v)]))
theorem pmk_name {a : Expr} {ta : TA} {p pos : Pos} {k : Nat} (T : PySem.LowX_name.LowTxt cn qn X.K X.mg C fI) (hr : Room k X.A) (ha : PA X [a] ta) (hg : Gl X cn) (hdb : (cn == ("__debug__" : Str)) = false)
    (he : starEach (a :: []) X.env = (false, eval a X.env) :: starEach [] X.env := by rfl) (hpl : (backTo pos (starEach [] X.env)).any (·.1) = false := by rfl) :
    PMk X (.Call (.Name cn p) [a] [] pos) (tMk_name C ta) := by
  intro pins s σ H Q I h
  refine wpAny_Call_Name_kw (ld_glob I hg T.gC ?_ hdb)
  refine PySem.W.callWith_K (h₀ := X.base) I.ok.mod.kin T.kC (thn (ha.run pos pins s σ H _ I h) fun us s1 hh => ?_) he hpl
  obtain ⟨vs, H1, I1, r1, v, ev, q1⟩ := hh
  subst ev
  refine ⟨I1.kIn, ?_⟩
  cases r1 with
  | cons rv rn =>
    rename_i v' us'
    cases rn
    show wpAny _ _ (call (.ref C) [v']) _ _ _
    have hlim := I1.nolimit
    obtain ⟨hp, g, dr, tk, os⟩ := s1
    refine wpAny_call (PySem.LowX_name.low_made T I1.kIn hlim (by have := hr.dp; omega) fun h' tk' e d M => ?_)
    show MkP X pins σ Q (.ref e) ⟨h', g, dr, tk', os⟩
    obtain ⟨oe, fv, hoe, hc, hd, hdat, h1⟩ := M.obj
    have hns := M.ns
    obtain ⟨G', g1, g2⟩ := restrict h' fun b => decide (b ≠ e)
    have gk : ∀ b, b ≠ e → G'.get? b = h'.get? b := fun b hb => g1 b (decide_eq_true hb)
    have ge : G'.get? e = none := g2 e (by simp)
    have old : ∀ b o, hp.get? b = some o → G'.get? b = some o := fun b o q => (gk b (Nat.ne_of_lt (Nat.lt_of_lt_of_le (Heap.lt_size q) M.new))).trans (M.keep b o q)
    have ob : ObjOk X.prog X.w (upd H1 d (.xd [(("name" : Str), v)])) G' d (.xd [(("name" : Str), v)]) :=
      ⟨_, hns.at (fun o q => (gk d M.dne).trans q), fun f => relO_name rv f⟩
    have J : Inv X pins σ (upd H1 d (.xd [(("name" : Str), v)])) ⟨G', g, dr, tk', os⟩ := I1.laid (t' := tk') old M.dbig ob
    refine ⟨e, oe, fv, ⟨G', g, dr, tk', os⟩, _, .ref C, some d, rfl, J, fun b o q => ?_, ge, hoe, ⟨hc, hd⟩, hdat, h1, ?_, rfl, I1.bare, raises_own T.exC T.tyC, q1 d (I1.hok.fresh M.dbig)⟩
    · by_cases hb : b = e
      · have q' : G'.get? b = some o := q
        rw [hb, ge] at q'; cases q'
      · exact (gk b hb).symm.trans q
    · rw [upd_ne (Ne.symm M.dne)]
      exact I1.hok.fresh M.new
end
end L2
namespace PySem
namespace LowX_path
open PySem.W PySem.Calls PyProof.Rows PySem.HandSPX
noncomputable def iA (p1 p2 : Pos) : Arguments := { posonlyargs := [], args := [{ arg := "self", annotation := none, pos := p1 }, { arg := "path", annotation := none, pos := p2 }], vararg := none, kwonlyargs := [], kw_defaults := [], kwarg := none, defaults := [] }
noncomputable def iB (q1 q2 q3 q4 : Pos) : List Stmt := [.Assign [.Attribute (.Name "self" q1) "path" q2] (.Name "path" q3) q4]
noncomputable def iS : Scope := { kind := .function, names := [(PySem.Str.ofString "self", .local), (PySem.Str.ofString "path", .local)], isGenerator := false, isCoroutine := false, more := [] }
/-- what the written part says of X, at C, and of its __init__, at fI -/
structure LowTxt (cn qn : Str) (K : Frag) (mg : Str → Option Value) (C fI : Addr) : Prop where
  gC : mg cn = some (.ref C)
  cls : ∃ nm q N bs bm sn sub ab col dd k0 k1 k2 k3 k5, K.lookup C = some (excClassObj nm q C N bs bm true sn sub ab col dd k0 k1 k2 k3 k5 "ValueError.__new__") ∧ refsVE bm = true
  sa : findIn K (.ref C) "__setattr__" = some (some (.builtin "object.__setattr__"))
  ga : findIn K (.ref C) "__getattribute__" = some (some (.builtin "BaseException.__getattribute__"))
  gg : findIn K (.ref C) "__getattr__" = some none
  noN : findIn K (.ref C) "path" = some none
  iC : findIn K (.ref C) "__init__" = some (some (.ref fI))
  tC : typeIn K (.ref fI) = some (.type "function")
  kC : keepIn K (.ref C) = true
  exC : subIn K (.ref C) (.type "BaseException") = some true
  tyC : typeIn K (.ref C) = some (.type "type")
  hdC : hasDictIn K C = true
  te : exmOne K (.ref C) (.ref C) = some true
  fn : ∃ (oc : Value) (od : Option Addr) (doc pm : Value) (an : Option Addr) (cdv ct : Value) (osl : Array (Option Value)) (p1 p2 q1 q2 q3 q4 : Pos),
    K.lookup fI = some ⟨oc, od, .func (fnOf "__init__" qn (iA p1 p2) (iB q1 q2 q3 q4) iS .none .none doc pm an cdv ct), osl⟩ ∧ codeIn K cdv qn = true
theorem one_size (v : Value) : [v].length ≤ sizeLine := by
  rw [sizeLine_eq]
  exact (by decide : 1 ≤ 16777216)
theorem ldC {M : Model} {s : Shared} {name : Str} {scope : Scope} {L a : Addr} {cd : Value} {m : Str → Option Value} {x : Str} {pos : Pos} {v : Value} {Q : Value → Shared → Prop} {A : Around} {E : Value → Shared → Prop} (hn : s.heap.Ns L m) (hv : m x = some v) (h : Q v s)
    (hk : scope.kind = .function := by rfl) (hl : (envOfC name scope L a cd).kindOf x = some .local := by rfl) (hd : (x == ("__debug__" : Str)) = false := by decide) :
    wpAny M A (eval (.Name x pos) (envOfC name scope L a cd)) Q E s := wpAny_Name (wpAny_loadName_local hk hl hn hv h) hd
/-- what __init__ leaves of a fresh exception at x -/
structure InitEnd (h h' : Heap) (x C dx t1 : Addr) (v : Value) : Prop where
  keep : ∀ b o, b ≠ x → h.get? b = some o → h'.get? b = some o
  obj : h'.get? x = some { cls := .ref C, dict := some dx, data := .fields #[.ref t1, .none, .none, .none, .bool false, .none] }
  dbig : h.objs.size ≤ dx
  dne : dx ≠ x
  ns : h'.Ns1 dx (fun y => if y = "path" then some v else none)
/-- a made X -/
structure OwnMade (h h' : Heap) (e C d : Addr) (v : Value) : Prop where
  keep : ∀ b o, h.get? b = some o → h'.get? b = some o
  new : h.objs.size ≤ e
  obj : ∃ oe vs, h'.get? e = some oe ∧ oe.cls = .ref C ∧ oe.dict = some d ∧ oe.data = .fields vs ∧ vs[1]? = some .none
  dbig : h.objs.size ≤ d
  dne : d ≠ e
  ns : h'.Ns1 d (fun y => if y = "path" then some v else none)
section
variable {prog : Program} {w : World} {A : Around} {E : Value → Shared → Prop} {R : Result → Shared → Prop} {s : Shared} {K : Frag} {mg : Str → Option Value} {C fI : Addr} {cn qn : Str}
theorem low_init (T : LowTxt cn qn K mg C fI) {x t0 : Addr} {v : Value} (X : K.In s.heap) (hlim : s.heap.NoLimit) (hx : s.heap.get? x = some (excO C t0)) (hnx : K.lookup x = none) (hroom : A.depth < recursionLimit)
    (hq : ∀ h' tk dx, InitEnd s.heap h' x C dx t0 v → R (.ok (.ret .none)) { s with heap := h', toks := tk }) :
    codeAny (model prog w) A (.call (.ref fI) ⟨[.ref x, v], []⟩) R s := by
  obtain ⟨oc, od, doc, pm, an, cdv, ct, osl, p1, p2, q1, q2, q3, q4, ho, hcd⟩ := T.fn
  obtain ⟨nm, q, N, bs, bm, sn, sub, ab, col, dd, k0, k1, k2, k3, k5, hC, hbm⟩ := T.cls
  have hcl : clsIn K C = some { name := nm, bases := bs, mro := .ref C :: bm, ns := N, qualname := q, hasDict := true, slotNames := sn, subclasses := sub, abstract := ab, collection := col, hasDel := false } := by unfold clsIn; rw [hC] <;> rfl
  refine Att.call_fn (binds := [("self", .ref x), ("path", v)]) X hlim ho hcd hroom (BindsTo.of_eq (by first | rfl | with_unfolding_all rfl)) (by first | rfl | decide | with_unfolding_all rfl) (fun s₁ IC => ?_) rfl rfl rfl
  obtain ⟨h₁, tk₁, rfl⟩ := IC.toInCall.same
  have k : ∀ b o, s.heap.get? b = some o → h₁.get? b = some o := IC.toInCall.keep
  have hn := IC.toInCall.ns
  have hxL : s.heap.objs.size ≠ x := Nat.ne_of_gt (Heap.lt_size hx)
  have X₁ : K.In h₁ := X.keeps k
  have hx₁ := k _ _ hx
  -- self.by = by
  show wpAny _ _ (execs _ _) _ _ _
  refine wpAny_execs_cons (plainObj_wpAny_Assign_Attribute ?_)
  refine ldC (v := v) hn (by first | rfl | with_unfolding_all rfl | kernel_rfl) (ldC (v := .ref x) hn (by first | rfl | with_unfolding_all rfl | kernel_rfl) ?_)
  refine set_plain X₁ (ox := excO C t0) (od := none) ⟨hx₁, rfl, rfl, trivial⟩ T.sa ?_
  refine exc_osa X₁ hx₁ hcl (show refsVE (.ref C :: bm) = true from hbm) rfl T.noN (fun h₃ tk₃ dx k₃ dn dne hx₃ hn₃ => ?_)
  show wpAny _ _ (execs _ _) _ _ _
  have z : s.heap.objs.size < h₁.objs.size := hn.lt
  exact wpAny_execs_nil (hq h₃ tk₃ dx ⟨fun b o hb e => k₃ b o hb (k b o e), hx₃, Nat.le_of_lt (Nat.lt_of_lt_of_le z dn), dne, hn₃⟩)
theorem low_made (T : LowTxt cn qn K mg C fI) {v : Value} (X : K.In s.heap) (hlim : s.heap.NoLimit) (hroom : A.depth + 1 < recursionLimit)
    (hq : ∀ h' tk e d, OwnMade s.heap h' e C d v → R (.ok (.ret (.ref e))) { s with heap := h', toks := tk }) :
    codeAny (model prog w) A (.call (.ref C) ⟨[v], []⟩) R s := by
  obtain ⟨nm, q, N, bs, bm, sn, sub, ab, col, dd, k0, k1, k2, k3, k5, hC, hbm⟩ := T.cls
  obtain ⟨hp, g, dr, tk, os⟩ := s
  have k : ∀ b o, hp.get? b = some o → ((hp.push (kdv_tup [v])).push (excO C hp.objs.size)).get? b = some o := fun b o e => Heap.get?_push_of_some _ (Heap.get?_push_of_some _ e)
  have hget : ((hp.push (kdv_tup [v])).push (excO C hp.objs.size)).get? (hp.objs.size + 1) = some (excO C hp.objs.size) := by heap_get
  have hnx : K.lookup (hp.objs.size + 1) = none := by
    cases e : K.lookup (hp.objs.size + 1) with
    | none => rfl
    | some o =>
      have z : hp.get? (hp.objs.size + 1) = some o := X _ _ e
      exact absurd (Nat.lt_of_succ_lt (Heap.lt_size z)) (Nat.lt_irrefl _)
  refine call_own F.excBase_ValueError (fun X => refsVE_contains X bm hbm) (X _ _ hC) (looks_findIn X T.iC) (fun self => bind_fn X self T.tC) (one_size v) ?_
  refine low_init (s := ⟨(hp.push (kdv_tup [v])).push (excO C hp.objs.size), g, dr, tk, os⟩) T (X.keeps k) (hlim.keeps k) hget hnx ?_ fun h' tk' dx ⟨k', hx, dn, dne, hns⟩ => ?_
  · show A.depth + 1 < recursionLimit
    exact hroom
  · have old : ∀ b o, hp.get? b = some o → h'.get? b = some o := fun b o e => k' b o (Nat.ne_of_lt (Nat.lt_succ_of_lt (Heap.lt_size e))) (k b o e)
    have z : hp.objs.size + 1 + 1 ≤ dx := by
      first
        | (simpa only [Heap.size_push] using dn)
        | exact dn
        | (have q := dn; rw [Heap.size_push, Heap.size_push] at q; exact q)
    exact ⟨rfl, hq h' tk' (hp.objs.size + 1) dx ⟨old, Nat.le_succ _, ⟨_, _, hx, rfl, rfl, rfl, rfl⟩, Nat.le_trans (Nat.le_trans (Nat.le_succ _) (Nat.le_succ _)) z, dne, hns⟩⟩
end
end LowX_path
end PySem
namespace L2
open PySem PySem.Spec PyProof.Rows
theorem relO_path {v : V} {v' : Value} (r : RelV v v') (f : Str) : RelO (List.lookup f [(("path" : Str), v)]) (if f = "path" then some v' else none) := by
  by_cases hw : f = "path"
  · subst hw
    rw [if_pos rfl]
    have q : List.lookup ("path" : Str) [(("path" : Str), v)] = some v := by simp [List.lookup]
    rw [q]
    exact r
  · rw [if_neg hw]
    have qw : (f == ("path" : Str)) = false := by simpa using hw
    have q2 : List.lookup f [(("path" : Str), v)] = none := by simp [List.lookup, qw]
    rw [q2]
    trivial
section
variable {X : Cx} {C fI : Addr} {cn qn : Str}
/-- X(e) -/
noncomputable def tMk_path (C : Addr) (ta : TA) : St → Hp → XK → Prop := fun σ H Q => ta σ H fun vs H1 => ∃ v, vs = [v] ∧ ∀ d, H1 d = none → Q (.ref C) (some d) (upd H1 d (.xd [(("path" : Str), v)]))
theorem pmk_path {a : Expr} {ta : TA} {p pos : Pos} {k : Nat} (T : PySem.LowX_path.LowTxt cn qn X.K X.mg C fI) (hr : Room k X.A) (ha : PA X [a] ta) (hg : Gl X cn) (hdb : (cn == ("__debug__" : Str)) = false)
    (he : starEach (a :: []) X.env = (false, eval a X.env) :: starEach [] X.env := by rfl) (hpl : (backTo pos (starEach [] X.env)).any (·.1) = false := by rfl) :
    PMk X (.Call (.Name cn p) [a] [] pos) (tMk_path C ta) := by
  intro pins s σ H Q I h
  refine wpAny_Call_Name_kw (ld_glob I hg T.gC ?_ hdb)
  refine PySem.W.callWith_K (h₀ := X.base) I.ok.mod.kin T.kC (thn (ha.run pos pins s σ H _ I h) fun us s1 hh => ?_) he hpl
  obtain ⟨vs, H1, I1, r1, v, ev, q1⟩ := hh
  subst ev
  refine ⟨I1.kIn, ?_⟩
  cases r1 with
  | cons rv rn =>
    rename_i v' us'
    cases rn
    show wpAny _ _ (call (.ref C) [v']) _ _ _
    have hlim := I1.nolimit
    obtain ⟨hp, g, dr, tk, os⟩ := s1
    refine wpAny_call (PySem.LowX_path.low_made T I1.kIn hlim (by have := hr.dp; omega) fun h' tk' e d M => ?_)
    show MkP X pins σ Q (.ref e) ⟨h', g, dr, tk', os⟩
    obtain ⟨oe, fv, hoe, hc, hd, hdat, h1⟩ := M.obj
    have hns := M.ns
    obtain ⟨G', g1, g2⟩ := restrict h' fun b => decide (b ≠ e)
    have gk : ∀ b, b ≠ e → G'.get? b = h'.get? b := fun b hb => g1 b (decide_eq_true hb)
    have ge : G'.get? e = none := g2 e (by simp)
    have old : ∀ b o, hp.get? b = some o → G'.get? b = some o := fun b o q => (gk b (Nat.ne_of_lt (Nat.lt_of_lt_of_le (Heap.lt_size q) M.new))).trans (M.keep b o q)
    have ob : ObjOk X.prog X.w (upd H1 d (.xd [(("path" : Str), v)])) G' d (.xd [(("path" : Str), v)]) :=
      ⟨_, hns.at (fun o q => (gk d M.dne).trans q), fun f => relO_path rv f⟩
    have J : Inv X pins σ (upd H1 d (.xd [(("path" : Str), v)])) ⟨G', g, dr, tk', os⟩ := I1.laid (t' := tk') old M.dbig ob
    refine ⟨e, oe, fv, ⟨G', g, dr, tk', os⟩, _, .ref C, some d, rfl, J, fun b o q => ?_, ge, hoe, ⟨hc, hd⟩, hdat, h1, ?_, rfl, I1.bare, raises_own T.exC T.tyC, q1 d (I1.hok.fresh M.dbig)⟩
    · by_cases hb : b = e
      · have q' : G'.get? b = some o := q
        rw [hb, ge] at q'; cases q'
      · exact (gk b hb).symm.trans q
    · rw [upd_ne (Ne.symm M.dne)]
      exact I1.hok.fresh M.new
end
end L2
namespace Mp
open PySem
/-- values: tuples, and lists and dicts that nobody changes any more, are trees -/
inductive U where
  | non | bl (b : Bool) | int (i : Int) | str (s : List Nat)
  | tup (xs : List U) | lst (xs : List U) | dic (ks vs : List U) | dit (ks vs : List U) | ref (a : Addr)
  deriving Inhabited
/-- what stands at an address of the shared heap -/
inductive O where
  | con (u : U) | ins (k : Nat) (fs : List (Nat × U))
noncomputable abbrev Hh := Addr → Option O
noncomputable def put (G : Hh) (a : Addr) (o : O) : Hh := fun b => if b = a then some o else G b
/-- G' knows no more than G -/
noncomputable def Sub (G' G : Hh) : Prop := ∀ a o, G' a = some o → G a = some o
theorem Sub.refl (G : Hh) : Sub G G := fun _ _ h => h
theorem Sub.trans {A B C : Hh} (h : Sub A B) (k : Sub B C) : Sub A C := fun a o e => k a o (h a o e)
/-- what a slot holds: a value; a list or dict that it alone has; one that is lent (at t); a caught exception -/
inductive SV where
  | u (v : U) | own (v : U) | fz (t : Addr) (v : U) | exc (a : Addr) (d : Option (Addr × Str × U))
/-- what an expression gives: a value; a new list or dict that nobody else has; the one in a slot; an exception -/
inductive R where
  | u (v : U) | tmp (v : U) | lv (i : Nat) | exc (a : Addr)
noncomputable abbrev Rho := List (Option SV)
mutual
noncomputable def eqU : U → U → Bool
  | .non, .non => true
  | .bl a, .bl b => a == b
  | .bl a, .int b => (if a then 1 else 0) == b
  | .int a, .bl b => a == (if b then 1 else 0)
  | .int a, .int b => a == b
  | .str a, .str b => a == b
  | .tup a, .tup b => eqUs a b
  | .lst a, .lst b => eqUs a b
  | _, _ => false
noncomputable def eqUs : List U → List U → Bool
  | [], [] => true
  | x :: xs, y :: ys => eqU x y && eqUs xs ys
  | _, _ => false
end
mutual
/-- plain data, at most n deep -/
noncomputable def okU : Nat → U → Bool
  | _, .non => true
  | _, .bl _ => true
  | _, .int _ => true
  | _, .str _ => true
  | n + 1, .tup xs => okUs n xs
  | n + 1, .lst xs => okUs n xs
  | _, _ => false
noncomputable def okUs : Nat → List U → Bool
  | _, [] => true
  | n, x :: xs => okU n x && okUs n xs
end
noncomputable def truth : U → Option Bool
  | .non => some false
  | .bl b => some b
  | .int i => some (decide (i ≠ 0))
  | .str s => some (!s.isEmpty)
  | .tup xs => some (!xs.isEmpty)
  | .lst xs => some (!xs.isEmpty)
  | _ => none
/-- keys of dicts: ints, texts -/
noncomputable def key1 : U → Bool
  | .int _ => true | .str _ => true | _ => false
mutual
/-- a key with tuples: plain data, at most n deep -/
noncomputable def keyB : Nat → U → Bool
  | _, .non => true
  | _, .bl _ => true
  | _, .int _ => true
  | _, .str _ => true
  | n + 1, .tup xs => keyBs n xs
  | _, _ => false
noncomputable def keyBs : Nat → List U → Bool
  | _, [] => true
  | n, x :: xs => keyB n x && keyBs n xs
end
/-- keys of dicts with tuples as keys -/
noncomputable def keyT : U → Bool
  | .tup xs => keyBs 7 xs
  | _ => false
noncomputable def lookD : List U → List U → U → Option U
  | k :: ks, v :: vs, x => if eqU k x then some v else lookD ks vs x
  | _, _, _ => none
noncomputable def hasD : List U → U → Bool
  | [], _ => false
  | k :: ks, x => eqU k x || hasD ks x
/-- each value at a key x is y now -/
noncomputable def updD : List U → List U → U → U → List U
  | k :: ks, v :: vs, x, y => (if eqU k x then y else v) :: updD ks vs x y
  | _, _, _, _ => []
noncomputable def putDk (ks : List U) (x : U) : List U := if hasD ks x then ks else ks ++ [x]
noncomputable def putDv (ks vs : List U) (x y : U) : List U := if hasD ks x then updD ks vs x y else vs ++ [y]
noncomputable def delDk : List U → U → List U
  | [], _ => []
  | k :: ks, x => if eqU k x then delDk ks x else k :: delDk ks x
noncomputable def delDv : List U → List U → U → List U
  | k :: ks, v :: vs, x => if eqU k x then delDv ks vs x else v :: delDv ks vs x
  | _, _, _ => []
/-- an instance's fields -/
noncomputable def lookF : List (Nat × U) → Nat → Option U
  | [], _ => none
  | (g, x) :: r, f => bif Nat.beq g f then some x else lookF r f
inductive BOp where | add | sub | mul | fdiv | mod | pow
  deriving DecidableEq
inductive COp where | eq | ne | lt | le | gt | ge | inn | nin | deq | dne
  deriving DecidableEq
inductive Ty where | int | bool | str | list | tuple | dict | cls (k : Nat)
  deriving DecidableEq
/-- built-in functions -/
inductive Bf where | len | int | str | list | tuple | abs | sum | all | any | min | max | sorted | dict | rev | lset | lrev | maxz | maxm | tdict | sset | lsa
  deriving DecidableEq
/-- methods of built-in types -/
inductive Mt where | append | extend | pop | sindex | join | startswith | split | get | dpop | lindex | popi | part | rpart | scount | islow | isdig | lcount | dclear | tget | tpop
  deriving DecidableEq
mutual
inductive E where
  | loc (i : Nat) | int (i : Int) | str (s : List Nat) | bl (b : Bool) | non
  | cst (v : U)
  | bin (op : BOp) (a b : E) | neg (a : E) | not_ (a : E)
  | and_ (a : E) (es : Es) | or_ (a : E) (es : Es)
  | cmp (op : COp) (a b : E) | chain (o1 o2 : COp) (a b c : E)
  | isN (a : E) (neg : Bool) | isB (a : E) (v neg : Bool)
  | idx (a b : E) | slc (a : E) (lo hi : Oe)
  | fld (a : E) (f : Nat) | exf (i f : Nat)
  | call (f : Nat) (args : Es)
  | make (k f : Nat) (args : Es)
  | meth (k f : Nat) (o : E) (args : Es)
  | bcall (b : Bf) (args : Es)
  | bmeth (m : Mt) (o : E) (args : Es)
  | isin (a : E) (ts : List Ty) | isx (i j : Nat) | isxs (i : Nat) (js : List Nat)
  | tup (es : Es) | lst (es : Es) | dic (ks vs : Es)
  /-- {}, to have tuples as keys -/
  | dit0
  | lc (elt : E) (t : T) (it : It) (c : Oe) (own : List Nat)
  /-- a comprehension over the keys of a dict -/
  | lck (elt : E) (t : T) (a : E) (c : Oe) (own : List Nat)
  /-- .. of the shared dict in a slot -/
  | lcs (elt : E) (t : T) (i : Nat) (c : Oe) (own : List Nat)
  | new (e : E)
  | itl (it : It)
  /-- a name: what it alone has is frozen -/
  | frz (i : Nat)
  /-- never reached -/
  | no
  /-- a lookup in a dict of the module, that nobody changes; whether a text is a key of it -/
  | kix (d : Nat) (b : E) | kin (d : Nat) (b : E) (neg : Bool)
inductive Es where
  | nil | cons (e : E) (es : Es)
inductive Oe where
  | none | some (e : E)
inductive T where
  | nm (i : Nat) | tp (ts : Ts) | ix (a b : E) | fd (a : E) (f : Nat)
inductive Ts where
  | nil | cons (t : T) (ts : Ts)
inductive It where
  | seq (e : E) | rng (a : E) | rng2 (a b : E) | enm (e : E) | zip (a b : E) | rev (e : E)
end
mutual
inductive S where
  | ex (e : E) | asg (t : T) (e : E) | ret (e : E) | retn
  | ite (c : E) (a b : Ss) | for_ (t : T) (it : It) (b : Ss) | whl (c : E) (b : Ss)
  | rais (k : Nat) (args : Es)
  | tri (b : Ss) (hs : Hs) | pass | cont
  | par (i j : Nat) (a b : E)
  /-- a loop over the keys of the dict in a slot -/
  | fork (i : Nat) (t : T) (b : Ss)
  /-- a loop over the keys of a dict -/
  | forx (t : T) (a : E) (b : Ss)
  /-- never reached -/
  | no
  /-- a statement, in which the list that slot i owns is lent -/
  | lend (i : Nat) (s : S)
inductive Ss where
  | nil | cons (s : S) (ss : Ss)
inductive Hs where
  | nil | cons (ks : List Nat) (slot : Option Nat) (b : Ss) (hs : Hs)
end
noncomputable def tsLen : Ts → Nat
  | .nil => 0
  | .cons _ ts => tsLen ts + 1
mutual
/-- the names that a target stores are among vs -/
noncomputable def tgB (vs : List Nat) : T → Bool
  | .nm i => vs.contains i
  | .tp ts => tgBs vs ts
  | .ix _ _ => true
  | .fd _ _ => true
noncomputable def tgBs (vs : List Nat) : Ts → Bool
  | .nil => true
  | .cons t ts => tgB vs t && tgBs vs ts
end
structure Fn where
  np : Nat
  nl : Nat
  body : Ss
structure Pg where
  fns : Nat → Option Fn
  /-- the class has the field -/
  fdc : Nat → Nat → Bool
  sup : Nat → Nat → Bool
  /-- an exception's one field -/
  xfd : Nat → Option Nat
  xfs : Nat → Str
  /-- dicts of the module -/
  kds : Nat → List (List Nat × U) := fun _ => []
noncomputable abbrev Xc := Nat → List U → Rho → Hh → Prop
noncomputable abbrev Kc := R → Rho → Hh → Prop
/-- a call of an own def: the def, its arguments, the heap, what is wanted of an exception, of the value -/
noncomputable abbrev CalF := Nat → List SV → Hh → (Nat → List U → Hh → Prop) → (R → Hh → Prop) → Prop
/-- .. and the exception that the suite holds: where it lies, its class, its arguments -/
structure Cal where
  fn : CalF
  cur : Option (Addr × Option Addr × Nat × List U)
noncomputable def xcD (d : Addr) : List U → Option Addr
  | [] => none
  | _ => some d
noncomputable def xcV (d : Addr) (s : Str) : List U → Option (Addr × Str × U)
  | [x] => some (d, s, x)
  | _ => none
/-- the exception's dict is the one that the suite holds -/
noncomputable def dvOk (dv : Option (Addr × Str × U)) (e : Option Addr) : Prop :=
  match e with
  | none => True
  | some d => match dv with
    | some (d2, _, _) => d2 = d
    | none => False
noncomputable instance : Coe CalF Cal := ⟨fun f => ⟨f, none⟩⟩
/-- a slot set; the list comes out written -/
noncomputable def setK : Rho → Nat → Option SV → (Rho → Prop) → Prop
  | [], _, _, _ => False
  | _ :: ρ, 0, v, K => K (v :: ρ)
  | x :: ρ, i + 1, v, K => setK ρ i v fun ρ' => K (x :: ρ')
theorem setK_iff : ∀ {ρ : Rho} {i : Nat} {v : Option SV} {K : Rho → Prop}, setK ρ i v K ↔ i < ρ.length ∧ K (ρ.set i v)
  | [], _, _, _ => by simp [setK]
  | _ :: ρ, 0, v, K => by simp [setK]
  | x :: ρ, i + 1, v, K => by simp [setK, setK_iff]
noncomputable def noneK : Nat → (Rho → Prop) → Prop
  | 0, K => K []
  | n + 1, K => noneK n fun ρ => K (none :: ρ)
theorem noneK_iff : ∀ {n : Nat} {K : Rho → Prop}, noneK n K ↔ K (List.replicate n none)
  | 0, _ => Iff.rfl
  | n + 1, K => by simp only [noneK, noneK_iff, List.replicate_succ]
noncomputable def startK : Nat → List SV → Nat → (Rho → Prop) → Prop
  | 0, [], k, K => noneK k K
  | n + 1, v :: vs, k, K => startK n vs k fun ρ => K (some v :: ρ)
  | _, _, _, _ => False
theorem startK_iff : ∀ {n : Nat} {vs : List SV} {k : Nat} {K : Rho → Prop}, startK n vs k K ↔ vs.length = n ∧ K (vs.map some ++ List.replicate k none)
  | 0, [], k, K => by simp [startK, noneK_iff]
  | n + 1, v :: vs, k, K => by simp [startK, startK_iff]
  | 0, _ :: _, _, _ => by simp [startK]
  | _ + 1, [], _, _ => by simp [startK]
/-- what a result looks like -/
noncomputable def vw (r : R) (ρ : Rho) (G : Hh) : Option U :=
  match r with
  | .u v => match v with
    | .ref a => match G a with
      | some (.con c) => some c
      | _ => none
    | .dit _ _ => none
    | v => some v
  | .tmp c => some c
  | .lv i => match ρ[i]? with
    | some (some (.own c)) => some c
    | some (some (.fz _ c)) => some c
    | _ => none
  | .exc _ => none
noncomputable def vwK (r : R) (ρ : Rho) (G : Hh) (K : U → Prop) : Prop :=
  match vw r ρ G with
  | some x => K x
  | none => False
/-- a way each for true and false -/
noncomputable def Br : Bool → Prop → Prop → Prop
  | true, A, _ => A
  | false, _, B => B
theorem Br.dec {p A B : Prop} [Decidable p] (h1 : p → A) (h2 : ¬ p → B) : Br (decide p) A B := by
  by_cases h : p
  · rw [decide_eq_true h]; exact h1 h
  · rw [decide_eq_false h]; exact h2 h
theorem Br.any {b : Bool} {A B : Prop} (h1 : b = true → A) (h2 : b = false → B) : Br b A B := by
  cases b
  · exact h2 rfl
  · exact h1 rfl
theorem Br.nt {b : Bool} {A B : Prop} (h : Br b B A) : Br (!b) A B := by
  cases b <;> exact h
theorem Br.out {b : Bool} {A B : Prop} (h : Br b A B) : (b = true → A) ∧ (b = false → B) := by
  cases b
  · exact ⟨(fun e => nomatch e), fun _ => h⟩
  · exact ⟨fun _ => h, (fun e => nomatch e)⟩
noncomputable def optK {α : Type} (o : Option α) (K : α → Prop) : Prop :=
  match o with
  | some x => K x
  | none => False
/-- a result to be kept in a container: what is new, or in a slot, is frozen -/
noncomputable def toU (r : R) (ρ : Rho) (K : U → Rho → Prop) : Prop :=
  match r with
  | .u v => K v ρ
  | .tmp v => K v ρ
  | .lv i => match ρ[i]? with
    | some (some (.own c)) => setK ρ i (some (.u c)) fun ρ' => K c ρ'
    | _ => False
  | .exc _ => False
/-- two values -/
noncomputable def parK (rs : List R) (K : U → U → Prop) : Prop :=
  match rs with
  | [.u v, .u w] => K v w
  | _ => False
noncomputable def toUs : List R → Rho → (List U → Rho → Prop) → Prop
  | [], ρ, K => K [] ρ
  | r :: rs, ρ, K => toU r ρ fun v ρ1 => toUs rs ρ1 fun vs ρ2 => K (v :: vs) ρ2
/-- a result as an argument: what is new is the callee's, what is in a slot is lent -/
noncomputable def toS (r : R) (ρ : Rho) (K : SV → Prop) : Prop :=
  match r with
  | .u v => K (.u v)
  | .tmp v => K (.own v)
  | .lv i => match ρ[i]? with
    | some (some (.own c)) => ∀ t, K (.fz t c)
    | some (some (.fz t c)) => K (.fz t c)
    | _ => False
  | .exc _ => False
noncomputable def toSs : List R → Rho → (List SV → Prop) → Prop
  | [], _, K => K []
  | r :: rs, ρ, K => toS r ρ fun v => toSs rs ρ fun vs => K (v :: vs)
/-- a result that is no list or dict, as an index -/
noncomputable def ixK (r : R) (K : U → Prop) : Prop :=
  match r with
  | .u i => K i
  | _ => False
/-- a new content for the list or dict that r is -/
noncomputable def putR (r : R) (c : U) (ρ : Rho) (G : Hh) (K : Rho → Hh → Prop) : Prop :=
  match r with
  | .lv i => match ρ[i]? with
    | some (some (.own _)) => setK ρ i (some (.own c)) fun ρ' => K ρ' G
    | _ => False
  | .u (.ref a) => K ρ (put G a (.con c))
  | _ => False
/-- .. or what nobody else has -/
noncomputable def putT (r : R) (c : U) (ρ : Rho) (G : Hh) (K : Rho → Hh → Prop) : Prop :=
  match r with
  | .tmp _ => K ρ G
  | r => putR r c ρ G K
/-- texts alone -/
noncomputable def litS : Es → Option (List (List Nat))
  | .nil => some []
  | .cons e es => match e with
    | .str s => (litS es).map (s :: ·)
    | _ => none
/-- a result stored under a name -/
noncomputable def asgN (i : Nat) (r : R) (ρ : Rho) (K : Rho → Prop) : Prop :=
  match r with
  | .u v => setK ρ i (some (.u v)) K
  | .tmp v => setK ρ i (some (.own v)) K
  | .lv j => match ρ[j]? with
    | some (some (.own c)) => setK ρ j (some (.u c)) fun ρ' => setK ρ' i (some (.u c)) K
    | some (some (.fz t c)) => setK ρ i (some (.fz t c)) K
    | _ => False
  | .exc _ => False
noncomputable def MulOk (i j : Int) : Prop := (i.natAbs < 2 ^ 64 ∨ j.natAbs < 2 ^ 64) ∨ L2.CMulW i j
noncomputable def DivOk (j : Int) : Prop := 0 < j ∧ j.natAbs < 2 ^ 8000
noncomputable def rep {α : Type} (xs : List α) (k : Int) : List α := (List.replicate k.toNat xs).flatten
noncomputable def binU (op : BOp) (x y : U) (K : R → Prop) : Prop :=
  match op with
  | .add => match x with
    | .int i => match y with
      | .int j => K (.u (.int (i + j)))
      | _ => False
    | .str s => match y with
      | .str t => s.length + t.length ≤ sizeLine ∧ K (.u (.str (s ++ t)))
      | _ => False
    | .tup s => match y with
      | .tup t => s.length + t.length ≤ sizeLine ∧ K (.u (.tup (s ++ t)))
      | _ => False
    | .lst s => match y with
      | .lst t => s.length + t.length ≤ sizeLine ∧ K (.tmp (.lst (s ++ t)))
      | _ => False
    | _ => False
  | .sub => match x with
    | .int i => match y with
      | .int j => K (.u (.int (i - j)))
      | _ => False
    | _ => False
  | .mul => match x with
    | .int i => match y with
      | .int j => MulOk i j ∧ K (.u (.int (i * j)))
      | _ => False
    | .str s => match y with
      | .int j => (j < 2 ^ 24 ∧ -(2 ^ 24) < j ∧ s.length * j.toNat ≤ sizeLine) ∧ K (.u (.str (rep s j)))
      | _ => False
    | .lst s => match y with
      | .int j => (j < 2 ^ 24 ∧ -(2 ^ 24) < j ∧ s.length * j.toNat ≤ sizeLine) ∧ K (.tmp (.lst (rep s j)))
      | _ => False
    | .tup s => match y with
      | .int j => (s.length ≠ 0 ∧ 2 ≤ j ∧ j ≤ 1000 ∧ s.length ≤ 1000) ∧ K (.u (.tup (rep s j)))
      | _ => False
    | _ => False
  | .fdiv => match x with
    | .int i => match y with
      | .int j => DivOk j ∧ K (.u (.int (i / j)))
      | _ => False
    | _ => False
  | .mod => match x with
    | .int i => match y with
      | .int j => 0 < j ∧ K (.u (.int (i % j)))
      | _ => False
    | _ => False
  | .pow => match x with
    | .int i => match y with
      | .int j => (0 ≤ j ∧ j ≤ 1000000 ∧ i.natAbs < 2 ^ 64) ∧ K (.u (.int (i ^ j.toNat)))
      | _ => False
    | _ => False
noncomputable def deepU : Nat := 40
/-- dicts alike -/
noncomputable def subD (ks' ws' : List U) : List U → List U → Bool
  | k :: ks, v :: vs => (match lookD ks' ws' k with
    | some w => eqU v w
    | none => false) && subD ks' ws' ks vs
  | _, _ => true
noncomputable def eqD (ks ws ks' ws' : List U) : Bool := decide (ks.length = ks'.length) && subD ks' ws' ks ws
noncomputable def eqDK (x y : U) (K : Bool → Prop) : Prop :=
  match x with
  | .dic ks ws => match y with
    | .dic ks' ws' => (okUs deepU ws = true ∧ okUs deepU ws' = true) ∧ K (eqD ks ws ks' ws')
    | _ => False
  | _ => False
noncomputable def cmpU (op : COp) (x y : U) (K : Bool → Prop) : Prop :=
  match op with
  | .eq => (okU deepU x = true ∧ okU deepU y = true) ∧ K (eqU x y)
  | .ne => (okU deepU x = true ∧ okU deepU y = true) ∧ K (!eqU x y)
  | .lt => match x with
    | .int i => match y with
      | .int j => K (decide (i < j))
      | _ => False
    | .str s => match y with
      | .str t => K (decide (s < t))
      | _ => False
    | _ => False
  | .le => match x with
    | .int i => match y with
      | .int j => K (decide (i ≤ j))
      | _ => False
    | _ => False
  | .gt => match x with
    | .int i => match y with
      | .int j => K (decide (j < i))
      | _ => False
    | _ => False
  | .ge => match x with
    | .int i => match y with
      | .int j => K (decide (j ≤ i))
      | _ => False
    | _ => False
  | .inn => match y with
    | .str t => match x with
      | .str s => match s with
        | [c] => K (decide (c ∈ t))
        | _ => False
      | _ => False
    | .lst xs => (okU deepU x = true ∧ okUs deepU xs = true) ∧ K (xs.any fun y => eqU y x)
    | .tup xs => (okU deepU x = true ∧ okUs deepU xs = true) ∧ K (xs.any fun y => eqU y x)
    | .dic ks _ => key1 x = true ∧ K (hasD ks x)
    | .dit ks _ => keyT x = true ∧ K (hasD ks x)
    | _ => False
  | .nin => match y with
    | .str t => match x with
      | .str s => match s with
        | [c] => K (!decide (c ∈ t))
        | _ => False
      | _ => False
    | .lst xs => (okU deepU x = true ∧ okUs deepU xs = true) ∧ K (!xs.any fun y => eqU y x)
    | .tup xs => (okU deepU x = true ∧ okUs deepU xs = true) ∧ K (!xs.any fun y => eqU y x)
    | .dic ks _ => key1 x = true ∧ K (!hasD ks x)
    | .dit ks _ => keyT x = true ∧ K (!hasD ks x)
    | _ => False
  | .deq => eqDK x y K
  | .dne => eqDK x y fun b => K (!b)
noncomputable def atK {α : Type} (xs : List α) (i : Int) (K : α → Prop) : Prop := optK (L2.atI xs i) K
noncomputable def idxU (x y : U) (K : U → Prop) : Prop :=
  match x with
  | .tup xs => match y with
    | .int i => atK xs i K
    | _ => False
  | .lst xs => match y with
    | .int i => atK xs i K
    | _ => False
  | .str s => match y with
    | .int i => atK s i fun c => K (.str [c])
    | _ => False
  | .dic ks vs => key1 y = true ∧ optK (lookD ks vs y) K
  | .dit ks vs => keyT y = true ∧ optK (lookD ks vs y) K
  | _ => False
noncomputable def cut {α : Type} (xs : List α) (lo hi : Option Int) : List α :=
  (xs.drop (HT.sIx xs.length 0 lo)).take (HT.sIx xs.length xs.length hi - HT.sIx xs.length 0 lo)
noncomputable def slcU (x : U) (lo hi : Option Int) (K : R → Prop) : Prop :=
  match x with
  | .tup xs => K (.u (.tup (cut xs lo hi)))
  | .lst xs => K (.tmp (.lst (cut xs lo hi)))
  | .str s => K (.u (.str (cut s lo hi)))
  | _ => False
/-- a part of a slice -/
noncomputable def partK (r : Option R) (K : Option Int → Prop) : Prop :=
  match r with
  | none => K none
  | some (.u (.int i)) => K (some i)
  | _ => False
noncomputable def tyU (t : Ty) (v : U) : Bool :=
  match v with
  | .non => false
  | .bl _ => decide (t = .bool) || decide (t = .int)
  | .int _ => decide (t = .int)
  | .str _ => decide (t = .str)
  | .tup _ => decide (t = .tuple)
  | .lst _ => decide (t = .list)
  | .dic _ _ => decide (t = .dict)
  | .dit _ _ => decide (t = .dict)
  | .ref _ => false
noncomputable def putFd (f : Nat) (v : U) : List (Nat × U) → List (Nat × U)
  | [] => [(f, v)]
  | (g, x) :: r => bif Nat.beq g f then (g, v) :: r else (g, x) :: putFd f v r
noncomputable def setU (o i v : U) (K : U → Prop) : Prop :=
  match o with
  | .lst xs => match i with
    | .int k => optK (L2.ixN xs.length k) fun j => K (.lst (xs.set j v))
    | _ => False
  | .dic ks vs => (key1 i = true ∧ ks.length < sizeLine) ∧ K (.dic (putDk ks i) (putDv ks vs i v))
  | .dit ks vs => (keyT i = true ∧ ks.length < sizeLine) ∧ K (.dit (putDk ks i) (putDv ks vs i v))
  | _ => False
noncomputable def allInt : List U → Option (List Int)
  | [] => some []
  | .int i :: xs => (allInt xs).map (i :: ·)
  | _ => none
noncomputable def allBl : List U → Option (List Bool)
  | [] => some []
  | .bl i :: xs => (allBl xs).map (i :: ·)
  | _ => none
noncomputable def allStr : List U → Option (List (List Nat))
  | [] => some []
  | .str i :: xs => (allStr xs).map (i :: ·)
  | _ => none
noncomputable def insertI (x : Int) : List Int → List Int
  | [] => [x]
  | y :: ys => if x ≤ y then x :: y :: ys else y :: insertI x ys
noncomputable def sortI : List Int → List Int
  | [] => []
  | x :: xs => insertI x (sortI xs)
noncomputable def insertS (x : List Nat) : List (List Nat) → List (List Nat)
  | [] => [x]
  | y :: ys => if x ≤ y then x :: y :: ys else y :: insertS x ys
noncomputable def sortS : List (List Nat) → List (List Nat)
  | [] => []
  | x :: xs => insertS x (sortS xs)
noncomputable def maxI : List Int → Int
  | [] => 0
  | [x] => x
  | x :: xs => max x (maxI xs)
noncomputable def minI : List Int → Int
  | [] => 0
  | [x] => x
  | x :: xs => min x (minI xs)
/-- a text that may be -/
noncomputable def goodU : U → Bool
  | .str s => decide (s.length ≤ sizeLine) && s.all fun c => decide (c < 1114112)
  | _ => true
/-- the firsts of tuples, all ints or all texts -/
noncomputable def headsI : List U → Option (List Int)
  | [] => some []
  | x :: xs => match x with
    | .tup (.int i :: _) => (headsI xs).map (i :: ·)
    | _ => none
noncomputable def headsS : List U → Option (List (List Nat))
  | [] => some []
  | x :: xs => match x with
    | .tup (.str i :: _) => (headsS xs).map (i :: ·)
    | _ => none
noncomputable def hLe (x y : U) : Bool :=
  match x with
  | .tup (.int a :: _) => match y with
    | .tup (.int b :: _) => decide (a ≤ b)
    | _ => true
  | .tup (.str a :: _) => match y with
    | .tup (.str b :: _) => decide (a ≤ b)
    | _ => true
  | _ => true
noncomputable def insertH (x : U) : List U → List U
  | [] => [x]
  | y :: ys => if hLe x y = true then x :: y :: ys else y :: insertH x ys
noncomputable def sortH : List U → List U
  | [] => []
  | x :: xs => insertH x (sortH xs)
/-- the figures of an int -/
noncomputable def decS (i : Int) : List Nat := (PySem.Str.ofString (toString i)).cps.toList
/-- ints, or texts, sorted; or tuples by their firsts, that are unlike -/
noncomputable def sortU (xs : List U) (K : R → Prop) : Prop :=
  match allInt xs with
  | some ns => K (.tmp (.lst ((sortI ns).map U.int)))
  | none => match allStr xs with
    | some ss => ss.length < 64 ∧ K (.tmp (.lst ((sortS ss).map U.str)))
    | none => match headsI xs with
      | some hs => hs.Nodup ∧ K (.tmp (.lst (sortH xs)))
      | none => match headsS xs with
        | some hs => hs.Nodup ∧ K (.tmp (.lst (sortH xs)))
        | none => False
/-- a dict's keys sorted -/
noncomputable def sortD (ks : List U) (K : R → Prop) : Prop :=
  match allInt ks with
  | some ns => K (.tmp (.lst ((sortI ns).map U.int)))
  | none => match allStr ks with
    | some ss => (ss.length < 64 ∧ ks.all goodU = true) ∧ K (.tmp (.lst ((sortS ss).map U.str)))
    | none => False
/-- pairs (key, value); put together -/
noncomputable def pairsU : List U → Option (List (U × U))
  | [] => some []
  | x :: xs => match x with
    | .tup ys => match ys with
      | [k, v] => if key1 k = true then (pairsU xs).map ((k, v) :: ·) else none
      | _ => none
    | _ => none
noncomputable def pairsT : List U → Option (List (U × U))
  | [] => some []
  | x :: xs => match x with
    | .tup ys => match ys with
      | [k, v] => if keyT k = true then (pairsT xs).map ((k, v) :: ·) else none
      | _ => none
    | _ => none
noncomputable def mergeD : List (U × U) → List U → List U → List U × List U
  | [], ks, vs => (ks, vs)
  | p :: ps, ks, vs => mergeD ps (putDk ks p.1) (putDv ks vs p.1 p.2)
/-- without those met before -/
noncomputable def ddN {α : Type} [DecidableEq α] (l : List α) : List α := l.foldr (fun x acc => if x ∈ acc then acc else x :: acc) []
/-- sorted(set(xs)), of ints or of texts -/
@[irreducible] noncomputable def ssetU (xs : List U) (K : R → Prop) : Prop :=
  match allInt xs with
  | some ns => ns.length < 4000 ∧ K (.tmp (.lst ((sortI (ddN ns)).map U.int)))
  | none => match allStr xs with
    | some ss => ss.length < 4000 ∧ K (.tmp (.lst ((sortS (ddN ss)).map U.str)))
    | none => False
noncomputable def bf1 (b : Bf) (x : U) (K : R → Prop) : Prop :=
  match b with
  | .len => match x with
    | .str s => K (.u (.int s.length))
    | .tup xs => K (.u (.int xs.length))
    | .lst xs => K (.u (.int xs.length))
    | .dic ks _ => K (.u (.int ks.length))
    | .dit ks _ => K (.u (.int ks.length))
    | _ => False
  | .int => match x with
    | .int i => K (.u (.int i))
    | .bl k => K (.u (.int (if k then 1 else 0)))
    | .str s => optK (PySem.intText? ⟨s.toArray⟩) fun n => s.length ≤ 640 ∧ K (.u (.int n))
    | _ => False
  | .list => match x with
    | .tup xs => K (.tmp (.lst xs))
    | .lst xs => K (.tmp (.lst xs))
    | .dic ks _ => ks.all goodU = true ∧ K (.tmp (.lst ks))
    | .dit ks _ => K (.tmp (.lst ks))
    | _ => False
  | .tuple => match x with
    | .tup xs => K (.u (.tup xs))
    | .lst xs => K (.u (.tup xs))
    | _ => False
  | .abs => match x with
    | .int i => K (.u (.int i.natAbs))
    | _ => False
  | .sum => match x with
    | .lst xs => optK (allInt xs) fun ns => K (.u (.int ns.sum))
    | _ => False
  | .all => match x with
    | .lst xs => optK (allBl xs) fun bs => K (.u (.bl (bs.all id)))
    | _ => False
  | .sorted => match x with
    | .lst xs => sortU xs K
    | .dic ks _ => sortD ks K
    | _ => False
  | .dict => match x with
    | .dic ks vs => K (.tmp (.dic ks vs))
    | .lst xs => optK (pairsU xs) fun ps => K (.tmp (.dic (mergeD ps [] []).1 (mergeD ps [] []).2))
    | _ => False
  | .tdict => match x with
    | .lst xs => optK (pairsT xs) fun ps => K (.tmp (.dit (mergeD ps [] []).1 (mergeD ps [] []).2))
    | _ => False
  | .rev => match x with
    | .lst xs => K (.tmp (.lst xs.reverse))
    | _ => False
  | .lrev => match x with
    | .tup xs => K (.tmp (.lst xs.reverse))
    | .lst xs => K (.tmp (.lst xs.reverse))
    | _ => False
  | .maxz => match x with
    | .lst xs => optK (allInt xs) fun ns => K (.u (.int (if ns.isEmpty then 0 else maxI ns)))
    | _ => False
  | .maxm => match x with
    | .lst xs => optK (allInt xs) fun ns => K (.u (.int (if ns.isEmpty then -1 else maxI ns)))
    | _ => False
  | .sset => match x with
    | .lst xs => ssetU xs K
    | _ => False
  | .lsa => match x with
    | .lst xs => optK (allInt xs) fun ns => ns.length < 4000 ∧ K (.u (.int (ddN ns).length))
    | _ => False
  | .lset => match x with
    | .lst xs => optK (allInt xs) fun ns => (ns.length < 64 ∧ ns.Nodup) ∧ K (.u (.int ns.length))
    | _ => False
  | .str => match x with
    | .int i => (i.natAbs < 2 ^ 1000 ∧ goodU (.str (decS i)) = true) ∧ K (.u (.str (decS i)))
    | _ => False
  | .min => match x with
    | .lst xs => optK (allInt xs) fun ns => ns ≠ [] ∧ K (.u (.int (minI ns)))
    | _ => False
  | .max => match x with
    | .lst xs => optK (allInt xs) fun ns => ns ≠ [] ∧ K (.u (.int (maxI ns)))
    | _ => False
  | _ => False
noncomputable def bf2 (b : Bf) (x y : U) (K : R → Prop) : Prop :=
  match b with
  | .max => match x with
    | .int i => match y with
      | .int j => K (.u (.int (if j > i then j else i)))
      | _ => False
    | _ => False
  | .min => match x with
    | .int i => match y with
      | .int j => K (.u (.int (if j < i then j else i)))
      | _ => False
    | _ => False
  | _ => False
noncomputable def bfK (b : Bf) (rs : List R) (ρ : Rho) (G : Hh) (K : R → Prop) : Prop :=
  match rs with
  | [r] => vwK r ρ G fun x => bf1 b x K
  | [r, q] => vwK r ρ G fun x => vwK q ρ G fun y => bf2 b x y K
  | _ => False
noncomputable def preS (t s : List Nat) : Bool := decide (s.take t.length = t)
noncomputable def splC (c : Nat) : List Nat → List (List Nat)
  | [] => [[]]
  | x :: xs => if x = c then [] :: splC c xs else match splC c xs with
    | [] => [[x]]
    | y :: ys => (x :: y) :: ys
noncomputable def parC (c : Nat) : List Nat → Option (List Nat × List Nat)
  | [] => none
  | x :: xs => if x = c then some ([], xs) else (parC c xs).map fun p => (x :: p.1, p.2)
noncomputable def rparC (c : Nat) : List Nat → Option (List Nat × List Nat)
  | [] => none
  | x :: xs => match rparC c xs with
    | some p => some (x :: p.1, p.2)
    | none => if x = c then some ([], xs) else none
/-- a text in three: ahead of the first c, c, behind it -/
noncomputable def part3 (c : Nat) (s : List Nat) : List Nat × List Nat × List Nat := match parC c s with
  | some p => (p.1, [c], p.2)
  | none => (s, [], [])
noncomputable def rpart3 (c : Nat) (s : List Nat) : List Nat × List Nat × List Nat := match rparC c s with
  | some p => (p.1, [c], p.2)
  | none => ([], [], s)
noncomputable def joinS (sep : List Nat) : List (List Nat) → List Nat
  | [] => []
  | [x] => x
  | x :: y :: xs => x ++ (sep ++ joinS sep (y :: xs))
noncomputable def idxOfS (c : Nat) : List Nat → Nat → Option Nat
  | [], _ => none
  | x :: xs, k => if x = c then some k else idxOfS c xs (k + 1)
/-- the kind of a method's receiver -/
noncomputable def idxOfL (s : List Nat) : List (List Nat) → Nat → Option Nat
  | [], _ => none
  | x :: xs, k => if x = s then some k else idxOfL s xs (k + 1)
noncomputable def recM (m : Mt) (x : U) : Bool :=
  match x with
  | .lst _ => match m with
    | .append => true | .extend => true | .pop => true | .lindex => true | .popi => true | .lcount => true | _ => false
  | .dic _ _ => match m with
    | .get => true | .dpop => true | .dclear => true | _ => false
  | .dit _ _ => match m with
    | .tget => true | .tpop => true | _ => false
  | .str _ => match m with
    | .sindex => true | .join => true | .startswith => true | .split => true | .part => true | .rpart => true | .scount => true | .islow => true | .isdig => true | _ => false
  | _ => false
noncomputable def mtK (m : Mt) (r : R) (rs : List R) (ρ : Rho) (G : Hh) (K : R → Rho → Hh → Prop) : Prop :=
  match m with
  | .append => match rs with
    | [q] => toU q ρ fun v ρ1 => vwK r ρ1 G fun x => match x with
      | .lst xs => xs.length < sizeLine ∧ putT r (.lst (xs ++ [v])) ρ1 G fun ρ2 G2 => K (.u .non) ρ2 G2
      | _ => False
    | _ => False
  | .extend => match rs with
    | [q] => vwK q ρ G fun y => vwK r ρ G fun x => match x with
      | .lst xs => match y with
        | .lst ys => xs.length + ys.length ≤ sizeLine ∧ putR r (.lst (xs ++ ys)) ρ G fun ρ2 G2 => K (.u .non) ρ2 G2
        | _ => False
      | _ => False
    | _ => False
  | .pop => match rs with
    | [] => vwK r ρ G fun x => match x with
      | .lst xs => optK xs.getLast? fun v => putR r (.lst xs.dropLast) ρ G fun ρ2 G2 => K (.u v) ρ2 G2
      | _ => False
    | _ => False
  | .popi => match rs with
    | [q] => vwK q ρ G fun y => match y with
      | .int i => vwK r ρ G fun x => match x with
        | .lst xs => xs.length ≤ sizeLine ∧ optK (L2.ixN xs.length i) fun k => optK xs[k]? fun v => putR r (.lst (xs.eraseIdx k)) ρ G fun ρ2 G2 => K (.u v) ρ2 G2
        | _ => False
      | _ => False
    | _ => False
  | .sindex => match rs with
    | [q] => vwK r ρ G fun x => match x with
      | .str s => vwK q ρ G fun y => match y with
        | .str [c] => optK (idxOfS c s 0) fun k => K (.u (.int (k : Int))) ρ G
        | _ => False
      | _ => False
    | _ => False
  | .get => match rs with
    | [q] => vwK r ρ G fun x => match x with
      | .dic ks vs => vwK q ρ G fun y => key1 y = true ∧ K (.u ((lookD ks vs y).getD .non)) ρ G
      | _ => False
    | [q, d] => vwK r ρ G fun x => match x with
      | .dic ks vs => vwK q ρ G fun y => key1 y = true ∧ K (match lookD ks vs y with
        | some v => .u v
        | none => d) ρ G
      | _ => False
    | _ => False
  | .dpop => match rs with
    | [q] => vwK r ρ G fun x => match x with
      | .dic ks vs => vwK q ρ G fun y => key1 y = true ∧ optK (lookD ks vs y) fun v => putR r (.dic (delDk ks y) (delDv ks vs y)) ρ G fun ρ2 G2 => K (.u v) ρ2 G2
      | _ => False
    | [q, d] => vwK r ρ G fun x => match x with
      | .dic ks vs => vwK q ρ G fun y => key1 y = true ∧ (match lookD ks vs y with
        | some v => putR r (.dic (delDk ks y) (delDv ks vs y)) ρ G fun ρ2 G2 => K (.u v) ρ2 G2
        | none => putR r (.dic ks vs) ρ G fun ρ2 G2 => K d ρ2 G2)
      | _ => False
    | _ => False
  | .lindex => match rs with
    | [q] => vwK r ρ G fun x => match x with
      | .lst xs => vwK q ρ G fun y => match y with
        | .str s => optK (allStr xs) fun ss => optK (idxOfL s ss 0) fun k => K (.u (.int (k : Int))) ρ G
        | _ => False
      | _ => False
    | _ => False
  | .join => match rs with
    | [q] => vwK r ρ G fun x => match x with
      | .str s => vwK q ρ G fun y => match y with
        | .lst xs => optK (allStr xs) fun ys => (ys.map List.length).sum + ys.length * s.length ≤ sizeLine ∧ K (.u (.str (joinS s ys))) ρ G
        | _ => False
      | _ => False
    | _ => False
  | .startswith => match rs with
    | [q] => vwK r ρ G fun x => match x with
      | .str s => vwK q ρ G fun y => match y with
        | .str t => t ≠ [] ∧ K (.u (.bl (preS t s))) ρ G
        | _ => False
      | _ => False
    | _ => False
  | .split => match rs with
    | [q] => vwK r ρ G fun x => match x with
      | .str s => vwK q ρ G fun y => match y with
        | .str t => match t with
          | [c] => (c < 256 ∧ s.length + 2 ≤ sizeLine) ∧ K (.tmp (.lst ((splC c s).map U.str))) ρ G
          | _ => False
        | _ => False
      | _ => False
    | _ => False
  | .part => match rs with
    | [q] => vwK r ρ G fun x => match x with
      | .str s => vwK q ρ G fun y => match y with
        | .str t => match t with
          | [c] => (c < 256 ∧ s.length ≤ sizeLine) ∧ K (.u (.tup [.str (part3 c s).1, .str (part3 c s).2.1, .str (part3 c s).2.2])) ρ G
          | _ => False
        | _ => False
      | _ => False
    | _ => False
  | .rpart => match rs with
    | [q] => vwK r ρ G fun x => match x with
      | .str s => vwK q ρ G fun y => match y with
        | .str t => match t with
          | [c] => (c < 256 ∧ s.length ≤ sizeLine) ∧ K (.u (.tup [.str (rpart3 c s).1, .str (rpart3 c s).2.1, .str (rpart3 c s).2.2])) ρ G
          | _ => False
        | _ => False
      | _ => False
    | _ => False
  | .scount => match rs with
    | [q] => vwK r ρ G fun x => match x with
      | .str s => vwK q ρ G fun y => match y with
        | .str t => match t with
          | [c] => K (.u (.int (((splC c s).length - 1 : Nat) : Int))) ρ G
          | _ => False
        | _ => False
      | _ => False
    | _ => False
  | .islow => match rs with
    | [] => vwK r ρ G fun x => match x with
      | .str s => match s with
        | [c] => c < 128 ∧ K (.u (.bl (decide (97 ≤ c ∧ c ≤ 122)))) ρ G
        | _ => False
      | _ => False
    | _ => False
  | .isdig => match rs with
    | [] => vwK r ρ G fun x => match x with
      | .str s => match s with
        | [c] => c < 128 ∧ K (.u (.bl (decide (48 ≤ c ∧ c ≤ 57)))) ρ G
        | _ => False
      | _ => False
    | _ => False
  | .lcount => match rs with
    | [q] => vwK r ρ G fun x => match x with
      | .lst xs => vwK q ρ G fun y => (okUs deepU xs = true ∧ okU deepU y = true) ∧ K (.u (.int ((xs.countP fun z => eqU z y : Nat) : Int))) ρ G
      | _ => False
    | _ => False
  | .tget => match rs with
    | [q] => vwK r ρ G fun x => match x with
      | .dit ks vs => vwK q ρ G fun y => keyT y = true ∧ K (.u ((lookD ks vs y).getD .non)) ρ G
      | _ => False
    | [q, d] => vwK r ρ G fun x => match x with
      | .dit ks vs => vwK q ρ G fun y => keyT y = true ∧ K (match lookD ks vs y with
        | some v => .u v
        | none => d) ρ G
      | _ => False
    | _ => False
  | .tpop => match rs with
    | [q] => vwK r ρ G fun x => match x with
      | .dit ks vs => vwK q ρ G fun y => keyT y = true ∧ optK (lookD ks vs y) fun v => putR r (.dit (delDk ks y) (delDv ks vs y)) ρ G fun ρ2 G2 => K (.u v) ρ2 G2
      | _ => False
    | _ => False
  | .dclear => match rs with
    | [] => vwK r ρ G fun x => match x with
      | .dic _ _ => putR r (.dic [] []) ρ G fun ρ2 G2 => K (.u .non) ρ2 G2
      | _ => False
    | _ => False
inductive Src where
  | fix (xs : List U) | slot (i : Nat) (c : U) (xs : List U) | heap (a : Addr) (c : U) (xs : List U)
noncomputable def enumI (k : Nat) : List U → List U
  | [] => []
  | x :: xs => .tup [.int k, x] :: enumI (k + 1) xs
noncomputable def zipI : List U → List U → List U
  | x :: xs, y :: ys => .tup [x, y] :: zipI xs ys
  | _, _ => []
noncomputable def zipK (x y : U) (K : List U → Prop) : Prop :=
  match x with
  | .tup xs => match y with
    | .tup ys => K (zipI xs ys)
    | _ => False
  | .lst xs => match y with
    | .lst ys => K (zipI xs ys)
    | _ => False
  | _ => False
noncomputable def rangeI (lo hi : Int) : List U := (List.range (hi - lo).toNat).map fun (k : Nat) => U.int (lo + (k : Int))
noncomputable def itemsU : U → Option (List U)
  | .tup xs => some xs
  | .lst xs => some xs
  | .str s => some (s.map fun c => .str [c])
  | _ => none
/-- how the items us of x, that r is, are walked -/
noncomputable def srcR (r : R) (ρ : Rho) (x : U) (us : List U) (K : Src → Prop) : Prop :=
  match r with
  | .u (.ref a) => K (.heap a x us)
  | .lv i => match ρ[i]? with
    | some (some (.own c)) => K (.slot i c us)
    | _ => K (.fix us)
  | _ => K (.fix us)
/-- the items of what r is, of a kind that p lets by, through f -/
noncomputable def srcK (r : R) (ρ : Rho) (G : Hh) (p : U → Bool) (f : List U → List U) (K : Src → Prop) : Prop :=
  vwK r ρ G fun x => optK (if p x then itemsU x else none) fun xs => srcR r ρ x (f xs) K
noncomputable def isLT : U → Bool
  | .lst _ => true | .tup _ => true | _ => false
noncomputable def anyU : U → Bool := fun _ => true
noncomputable def forI0 (ck : Rho → Hh → Prop) (turn : U → Rho → Hh → (Rho → Hh → Prop) → Prop) : List U → Rho → Hh → (Rho → Hh → Prop) → Prop
  | [], ρ, G, Q => Q ρ G
  | x :: xs, ρ, G, Q => turn x ρ G fun ρ' G' => ∃ G'', Sub G'' G' ∧ ck ρ' G'' ∧ forI0 ck turn xs ρ' G'' Q
/-- the turns of a loop; to be opened by forI_nil, forI_cons alone -/
@[irreducible] noncomputable def forI (ck : Rho → Hh → Prop) (turn : U → Rho → Hh → (Rho → Hh → Prop) → Prop) (xs : List U) (ρ : Rho) (G : Hh) (Q : Rho → Hh → Prop) : Prop := forI0 ck turn xs ρ G Q
theorem forI_nil {ck : Rho → Hh → Prop} {turn : U → Rho → Hh → (Rho → Hh → Prop) → Prop} {ρ : Rho} {G : Hh} {Q : Rho → Hh → Prop} : forI ck turn [] ρ G Q = Q ρ G := by
  unfold forI
  rfl
theorem forI_cons {ck : Rho → Hh → Prop} {turn : U → Rho → Hh → (Rho → Hh → Prop) → Prop} {x : U} {xs : List U} {ρ : Rho} {G : Hh} {Q : Rho → Hh → Prop} : forI ck turn (x :: xs) ρ G Q = turn x ρ G fun ρ' G' => ∃ G'', Sub G'' G' ∧ ck ρ' G'' ∧ forI ck turn xs ρ' G'' Q := by
  unfold forI
  rfl
noncomputable def forK (src : Src) (turn : U → Rho → Hh → (Rho → Hh → Prop) → Prop) (ρ : Rho) (G : Hh) (Q : Rho → Hh → Prop) : Prop :=
  match src with
  | .fix xs => forI (fun _ _ => True) turn xs ρ G Q
  | .slot i c xs => setK ρ i (some (.u c)) fun ρ0 => forI (fun _ _ => True) turn xs ρ0 G Q
  | .heap a c xs => forI (fun _ G' => G' a = some (.con c)) turn xs ρ G Q
/-- a comprehension's turns: acc so far -/
noncomputable def wipeK (ρ : Rho) : List Nat → (Rho → Prop) → Prop
  | [], K => K ρ
  | v :: vs, K => wipeK ρ vs fun ρ' => setK ρ' v none K
noncomputable def addO (acc : List U) (o : Option U) : List U :=
  match o with
  | some y => acc ++ [y]
  | none => acc
noncomputable def delG (G : Hh) (a : Addr) : Hh := fun b => if b = a then none else G b
/-- no other slot holds what is lent -/
noncomputable def noFz (i : Nat) : Rho → Nat → Bool
  | [], _ => true
  | some (.fz _ _) :: ρ, j => decide (j = i) && noFz i ρ (j + 1)
  | _ :: ρ, j => noFz i ρ (j + 1)
/-- what slots other than i hold of lent lists in ρ' they held in ρ -/
inductive FzS (i : Nat) : Nat → Rho → Rho → Prop
  | nil {k : Nat} : FzS i k [] []
  | eq {k : Nat} {o : Option SV} {ρ ρ' : Rho} : FzS i (k + 1) ρ ρ' → FzS i k (o :: ρ) (o :: ρ')
  | here {o o' : Option SV} {ρ ρ' : Rho} : FzS i (i + 1) ρ ρ' → FzS i i (o :: ρ) (o' :: ρ')
  | u {k : Nat} {o : Option SV} {v : U} {ρ ρ' : Rho} : FzS i (k + 1) ρ ρ' → FzS i k (o :: ρ) (some (.u v) :: ρ')
  | map {k : Nat} {o : Option SV} {q : Option U} {ρ ρ' : Rho} : FzS i (k + 1) ρ ρ' → FzS i k (o :: ρ) (q.map SV.u :: ρ')
  | own {k : Nat} {o : Option SV} {v : U} {ρ ρ' : Rho} : FzS i (k + 1) ρ ρ' → FzS i k (o :: ρ) (some (.own v) :: ρ')
  | none {k : Nat} {o : Option SV} {ρ ρ' : Rho} : FzS i (k + 1) ρ ρ' → FzS i k (o :: ρ) (Option.none :: ρ')
/-- the keys of a dict that is walked -/
noncomputable def keysK (r : R) (ρ : Rho) (K : List U → Rho → Prop) : Prop :=
  match r with
  | .u x => match x with
    | .dic ks _ => ks.all goodU = true ∧ K ks ρ
    | _ => False
  | .tmp x => match x with
    | .dic ks _ => ks.all goodU = true ∧ K ks ρ
    | _ => False
  | .lv i => match ρ[i]? with
    | some (some (.own x)) => match x with
      | .dic ks ws => ks.all goodU = true ∧ setK ρ i (some (.u (.dic ks ws))) fun ρ' => K ks ρ'
      | _ => False
    | some (some (.fz _ x)) => match x with
      | .dic ks _ => ks.all goodU = true ∧ K ks ρ
      | _ => False
    | _ => False
  | _ => False
/-- a loop over the keys of the dict that slot i holds: it is read meanwhile, and nobody writes it -/
noncomputable def forkK (i : Nat) (sv : SV) (ρ : Rho) (G : Hh) (turn : (R → Rho → Hh → Prop) → U → Rho → Hh → (Rho → Hh → Prop) → Prop) (rt : R → Rho → Hh → Prop) (nx : Rho → Hh → Prop) : Prop :=
  match sv with
  | .u x => match x with
    | .dic ks _ => ks.all goodU = true ∧ forI (fun _ _ => True) (turn rt) ks ρ G nx
    | .ref a => match G a with
      | some (.con c) => match c with
        | .dic ks ws => ks.all goodU = true ∧ setK ρ i (some (.fz a (.dic ks ws))) fun ρ0 => forI (fun _ _ => True) (turn fun _ _ _ => False) ks ρ0 (delG G a) fun ρ' G' =>
            (ρ'[i]? = some (some (.fz a (.dic ks ws))) ∧ noFz i ρ' 0 = true) ∧ setK ρ' i (some (.u (.ref a))) fun ρ2 => nx ρ2 (put G' a (.con (.dic ks ws)))
        | _ => False
      | _ => False
    | _ => False
  | .own c => match c with
    | .dic ks ws => ks.all goodU = true ∧ setK ρ i (some (.u (.dic ks ws))) fun ρ0 => forI (fun _ _ => True) (turn rt) ks ρ0 G nx
    | _ => False
  | .fz _ c => match c with
    | .dic ks _ => ks.all goodU = true ∧ forI (fun _ _ => True) (turn rt) ks ρ G nx
    | _ => False
  | _ => False
noncomputable def lcI0 (own : List Nat) (ck : Rho → Hh → Prop) (turn : U → Rho → Hh → (Option U → Rho → Hh → Prop) → Prop) : List U → List U → Rho → Hh → (List U → Rho → Hh → Prop) → Prop
  | [], acc, ρ, G, Q => Q acc ρ G
  | x :: xs, acc, ρ, G, Q => turn x ρ G fun o ρ' G' => wipeK ρ' own fun ρ2 => ck ρ2 G' ∧ lcI0 own ck turn xs (addO acc o) ρ2 G' Q
@[irreducible] noncomputable def lcI (own : List Nat) (ck : Rho → Hh → Prop) (turn : U → Rho → Hh → (Option U → Rho → Hh → Prop) → Prop) (xs acc : List U) (ρ : Rho) (G : Hh) (Q : List U → Rho → Hh → Prop) : Prop := lcI0 own ck turn xs acc ρ G Q
theorem lcI_nil {own : List Nat} {ck : Rho → Hh → Prop} {turn : U → Rho → Hh → (Option U → Rho → Hh → Prop) → Prop} {acc : List U} {ρ : Rho} {G : Hh} {Q : List U → Rho → Hh → Prop} : lcI own ck turn [] acc ρ G Q = Q acc ρ G := by
  unfold lcI
  rfl
theorem lcI_cons {own : List Nat} {ck : Rho → Hh → Prop} {turn : U → Rho → Hh → (Option U → Rho → Hh → Prop) → Prop} {x : U} {xs acc : List U} {ρ : Rho} {G : Hh} {Q : List U → Rho → Hh → Prop} : lcI own ck turn (x :: xs) acc ρ G Q = turn x ρ G fun o ρ' G' => wipeK ρ' own fun ρ2 => ck ρ2 G' ∧ lcI own ck turn xs (addO acc o) ρ2 G' Q := by
  unfold lcI
  rfl
/-- the slots vs as they were in ρ0 -/
noncomputable def backK (ρ0 ρ : Rho) : List Nat → (Rho → Prop) → Prop
  | [], K => K ρ
  | v :: vs, K => backK ρ0 ρ vs fun ρ' => optK (ρ0[v]?) fun o => setK ρ' v o K
/-- no list or dict of its own in the slot -/
noncomputable def plainS : Option (Option SV) → Bool
  | some none => true
  | some (some (.u _)) => true
  | _ => false
noncomputable def plainsS (ρ : Rho) : List Nat → Bool
  | [] => true
  | v :: vs => plainS (ρ[v]?) && plainsS ρ vs
noncomputable def lcK (src : Src) (own : List Nat) (turn : U → Rho → Hh → (Option U → Rho → Hh → Prop) → Prop) (ρ : Rho) (G : Hh) (Q : List U → Rho → Hh → Prop) : Prop :=
  plainsS ρ own = true ∧ match src with
  | .fix xs => xs.length ≤ sizeLine ∧ wipeK ρ own fun ρ0 => lcI own (fun _ _ => True) turn xs [] ρ0 G fun acc ρ' G' => backK ρ ρ' own fun ρ2 => Q acc ρ2 G'
  | .slot i c xs => xs.length ≤ sizeLine ∧ wipeK ρ own fun ρ0 => lcI own (fun ρ' _ => ρ'[i]? = some (some (.own c))) turn xs [] ρ0 G fun acc ρ' G' => backK ρ ρ' own fun ρ2 => Q acc ρ2 G'
  | .heap a c xs => xs.length ≤ sizeLine ∧ wipeK ρ own fun ρ0 => lcI own (fun _ G' => G' a = some (.con c)) turn xs [] ρ0 G fun acc ρ' G' => backK ρ ρ' own fun ρ2 => Q acc ρ2 G'
noncomputable abbrev Nx := Rho → Hh → Prop
section
variable (P : Pg) (Γ : Cal)
noncomputable def nonB (v : U) (neg : Bool) : Bool :=
  match v with
  | .non => !neg
  | _ => neg
/-- a truth's own value, known -/
noncomputable def bvl (r : R) (b : Bool) : R :=
  match r with
  | .u (.bl _) => .u (.bl b)
  | r => r
/-- a field of an instance is set -/
noncomputable def putA (ro : R) (f : Nat) (v : U) (G : Hh) (K : Hh → Prop) : Prop :=
  match ro with
  | .u (.ref p) => match G p with
    | some (.ins k fs) => (fs.length < 900 ∧ P.fdc k f = true) ∧ K (put G p (.ins k (putFd f v fs)))
    | _ => False
  | _ => False
noncomputable def nonR (r : R) : Prop :=
  match r with
  | .u .non => True
  | _ => False
noncomputable def tstK (r : R) (ρ : Rho) (G : Hh) (K : Bool → Prop) : Prop := vwK r ρ G fun x => optK (truth x) K
/-- a comprehension's condition -/
noncomputable def cndK (rc : Option R) (ρ : Rho) (G : Hh) (A B : Prop) : Prop :=
  match rc with
  | some r => tstK r ρ G fun b => Br b A B
  | none => A
mutual
noncomputable def wpE : E → Rho → Hh → Xc → Kc → Prop
  | .loc i, ρ, G, _, Q => match ρ[i]? with
    | some (some (.u v)) => Q (.u v) ρ G
    | some (some (.exc a _)) => Q (.exc a) ρ G
    | some (some _) => Q (.lv i) ρ G
    | _ => False
  | .frz i, ρ, G, _, Q => match ρ[i]? with
    | some (some (.u v)) => Q (.u v) ρ G
    | some (some (.own c)) => setK ρ i (some (.u c)) fun ρ1 => Q (.u c) ρ1 G
    | _ => False
  | .no, _, _, _, _ => False
  | .int i, ρ, G, _, Q => Q (.u (.int i)) ρ G
  | .str s, ρ, G, _, Q => Q (.u (.str s)) ρ G
  | .bl b, ρ, G, _, Q => Q (.u (.bl b)) ρ G
  | .non, ρ, G, _, Q => Q (.u .non) ρ G
  | .cst v, ρ, G, _, Q => Q (.u v) ρ G
  | .bin op a b, ρ, G, X, Q => wpE a ρ G X fun ra ρ1 G1 => wpE b ρ1 G1 X fun rb ρ2 G2 =>
      vwK ra ρ2 G2 fun x => vwK rb ρ2 G2 fun y => binU op x y fun r => Q r ρ2 G2
  | .neg a, ρ, G, X, Q => wpE a ρ G X fun ra ρ1 G1 => vwK ra ρ1 G1 fun x => match x with
      | .int i => Q (.u (.int (-i))) ρ1 G1
      | _ => False
  | .not_ a, ρ, G, X, Q => wpE a ρ G X fun ra ρ1 G1 => tstK ra ρ1 G1 fun b => Q (.u (.bl (!b))) ρ1 G1
  | .and_ a es, ρ, G, X, Q => wpE a ρ G X fun ra ρ1 G1 => tstK ra ρ1 G1 fun b => Br b (wpAnd es ρ1 G1 X Q) (Q (bvl ra false) ρ1 G1)
  | .or_ a es, ρ, G, X, Q => wpE a ρ G X fun ra ρ1 G1 => tstK ra ρ1 G1 fun b => Br b (Q (bvl ra true) ρ1 G1) (wpOr es ρ1 G1 X Q)
  | .cmp op a b, ρ, G, X, Q => wpE a ρ G X fun ra ρ1 G1 => wpE b ρ1 G1 X fun rb ρ2 G2 =>
      vwK ra ρ2 G2 fun x => vwK rb ρ2 G2 fun y => cmpU op x y fun k => Q (.u (.bl k)) ρ2 G2
  | .chain o1 o2 a b c, ρ, G, X, Q => wpE a ρ G X fun ra ρ1 G1 => wpE b ρ1 G1 X fun rb ρ2 G2 =>
      vwK ra ρ2 G2 fun x => vwK rb ρ2 G2 fun y => cmpU o1 x y fun k =>
        Br k (wpE c ρ2 G2 X fun rc ρ3 G3 => vwK rb ρ3 G3 fun y' => vwK rc ρ3 G3 fun z => cmpU o2 y' z fun k' => Q (.u (.bl k')) ρ3 G3) (Q (.u (.bl false)) ρ2 G2)
  | .isN a neg, ρ, G, X, Q => wpE a ρ G X fun ra ρ1 G1 => match ra with
      | .u v => Q (.u (.bl (nonB v neg))) ρ1 G1
      | _ => vwK ra ρ1 G1 fun _ => Q (.u (.bl neg)) ρ1 G1
  | .isB a k neg, ρ, G, X, Q => wpE a ρ G X fun ra ρ1 G1 => match ra with
      | .u v => match v with
        | .bl b => Q (.u (.bl (if neg then !decide (b = k) else decide (b = k)))) ρ1 G1
        | _ => False
      | _ => False
  | .idx a b, ρ, G, X, Q => wpE a ρ G X fun ra ρ1 G1 => wpE b ρ1 G1 X fun rb ρ2 G2 =>
      vwK ra ρ2 G2 fun x => vwK rb ρ2 G2 fun y => idxU x y fun v => Q (.u v) ρ2 G2
  | .kix d b, ρ, G, X, Q => wpE b ρ G X fun rb ρ1 G1 => vwK rb ρ1 G1 fun y => match y with
      | .str s => optK ((P.kds d).lookup s) fun v => Q (.u v) ρ1 G1
      | _ => False
  | .kin d b neg, ρ, G, X, Q => wpE b ρ G X fun rb ρ1 G1 => vwK rb ρ1 G1 fun y => match y with
      | .str s => Q (.u (.bl (if neg then !((P.kds d).lookup s).isSome else ((P.kds d).lookup s).isSome))) ρ1 G1
      | _ => False
  | .slc a lo hi, ρ, G, X, Q => wpE a ρ G X fun ra ρ1 G1 => wpO lo ρ1 G1 X fun rl ρ2 G2 => partK rl fun l => wpO hi ρ2 G2 X fun rh ρ3 G3 => partK rh fun h =>
      vwK ra ρ3 G3 fun x => slcU x l h fun r => Q r ρ3 G3
  | .fld a f, ρ, G, X, Q => wpE a ρ G X fun ra ρ1 G1 => match ra with
      | .u (.ref p) => match G1 p with
        | some (.ins _ fs) => optK (lookF fs f) fun v => Q (.u v) ρ1 G1
        | _ => False
      | _ => False
  | .exf i f, ρ, G, _, Q => match ρ[i]? with
    | some (some (.exc a (some (d, s, x)))) => match Γ.cur with
      | some (b, e, k, _) => (a = b ∧ e = some d ∧ P.xfd k = some f ∧ s = P.xfs k) ∧ Q (.u x) ρ G
      | _ => False
    | _ => False
  | .call f args, ρ, G, X, Q => wpEs args ρ G X fun rs ρ1 G1 => toSs rs ρ1 fun svs =>
      Γ.fn f svs G1 (fun k as G2 => X k as ρ1 G2) fun r G2 => Q r ρ1 G2
  | .make k f args, ρ, G, X, Q => wpEs args ρ G X fun rs ρ1 G1 => toSs rs ρ1 fun svs => ∀ a, G1 a = none →
      Γ.fn f (.u (.ref a) :: svs) (put G1 a (.ins k [])) (fun k as G2 => X k as ρ1 G2) fun r G2 => nonR r ∧ Q (.u (.ref a)) ρ1 G2
  | .meth k f o args, ρ, G, X, Q => wpE o ρ G X fun ro ρ1 G1 => match ro with
      | .u (.ref p) => match G1 p with
        | some (.ins k' _) => k' = k ∧ wpEs args ρ1 G1 X fun rs ρ2 G2 => toSs rs ρ2 fun svs =>
            Γ.fn f (.u (.ref p) :: svs) G2 (fun k as G3 => X k as ρ2 G3) fun r G3 => Q r ρ2 G3
        | _ => False
      | _ => False
  | .bcall b args, ρ, G, X, Q => wpEs args ρ G X fun rs ρ1 G1 => bfK b rs ρ1 G1 fun r => Q r ρ1 G1
  | .bmeth m o args, ρ, G, X, Q => wpE o ρ G X fun ro ρ1 G1 => vwK ro ρ1 G1 fun x => Br (recM m x) (wpEs args ρ1 G1 X fun rs ρ2 G2 => mtK m ro rs ρ2 G2 Q) False
  | .isin a ts, ρ, G, X, Q => wpE a ρ G X fun ra ρ1 G1 => vwK ra ρ1 G1 fun x => Q (.u (.bl (ts.any fun t => tyU t x))) ρ1 G1
  | .isx i j, ρ, G, _, Q => match ρ[i]? with
    | some (some (.exc a dv)) => match Γ.cur with
      | some (b, e, k, _) => a = b ∧ dvOk dv e ∧ Q (.u (.bl (P.sup k j))) ρ G
      | _ => False
    | _ => False
  | .isxs i js, ρ, G, _, Q => match ρ[i]? with
    | some (some (.exc a dv)) => match Γ.cur with
      | some (b, e, k, _) => a = b ∧ dvOk dv e ∧ Q (.u (.bl (js.any fun j => P.sup k j))) ρ G
      | _ => False
    | _ => False
  | .tup es, ρ, G, X, Q => wpEs es ρ G X fun rs ρ1 G1 => toUs rs ρ1 fun vs ρ2 => vs.length ≤ sizeLine ∧ Q (.u (.tup vs)) ρ2 G1
  | .lst es, ρ, G, X, Q => wpEs es ρ G X fun rs ρ1 G1 => toUs rs ρ1 fun vs ρ2 => vs.length ≤ sizeLine ∧ Q (.tmp (.lst vs)) ρ2 G1
  | .dit0, ρ, G, _, Q => Q (.tmp (.dit [] [])) ρ G
  | .dic ks vs, ρ, G, X, Q => match ks with
    | .nil => Q (.tmp (.dic [] [])) ρ G
    | .cons _ _ => optK (litS ks) fun ss => wpEs vs ρ G X fun rs ρ1 G1 => toUs rs ρ1 fun us ρ2 => us.length = ss.length ∧ Q (.tmp (.dic (ss.map U.str) us)) ρ2 G1
  | .lc elt t it c own, ρ, G, X, Q => wpIt it ρ G X fun src ρ1 G1 => lcK src own (fun x ρ2 G2 K => asgT t (.u x) ρ2 G2 (fun _ _ _ _ => False) fun ρ3 G3 =>
      wpO c ρ3 G3 (fun _ _ _ _ => False) fun rc ρ4 G4 => cndK rc ρ4 G4 (wpE elt ρ4 G4 (fun _ _ _ _ => False) fun ry ρ5 G5 => toU ry ρ5 fun y ρ6 => K (some y) ρ6 G5) (K none ρ4 G4)) ρ1 G1 fun acc ρ2 G2 => Q (.tmp (.lst acc)) ρ2 G2
  | .lck elt t a c own, ρ, G, X, Q => wpE a ρ G X fun r ρ1 G1 => keysK r ρ1 fun ks ρ2 => lcK (.fix ks) own (fun x ρ2 G2 K => asgT t (.u x) ρ2 G2 (fun _ _ _ _ => False) fun ρ3 G3 =>
      wpO c ρ3 G3 (fun _ _ _ _ => False) fun rc ρ4 G4 => cndK rc ρ4 G4 (wpE elt ρ4 G4 (fun _ _ _ _ => False) fun ry ρ5 G5 => toU ry ρ5 fun y ρ6 => K (some y) ρ6 G5) (K none ρ4 G4)) ρ2 G1 fun acc ρ2 G2 => Q (.tmp (.lst acc)) ρ2 G2
  | .lcs elt t i c own, ρ, G, _, Q => match ρ[i]? with
    | some (some (.u x)) => match x with
      | .ref p => match G p with
        | some (.con y) => match y with
          | .dic ks ws => ks.all goodU = true ∧ setK ρ i (some (.fz p (.dic ks ws))) fun ρ0 => lcK (.fix ks) own (fun x ρ2 G2 K => asgT t (.u x) ρ2 G2 (fun _ _ _ _ => False) fun ρ3 G3 =>
              wpO c ρ3 G3 (fun _ _ _ _ => False) fun rc ρ4 G4 => cndK rc ρ4 G4 (wpE elt ρ4 G4 (fun _ _ _ _ => False) fun ry ρ5 G5 => toU ry ρ5 fun y ρ6 => K (some y) ρ6 G5) (K none ρ4 G4)) ρ0 (delG G p) fun acc ρ' G' =>
                (ρ'[i]? = some (some (.fz p (.dic ks ws))) ∧ noFz i ρ' 0 = true) ∧ setK ρ' i (some (.u (.ref p))) fun ρ2 => Q (.tmp (.lst acc)) ρ2 (put G' p (.con (.dic ks ws)))
          | _ => False
        | _ => False
      | _ => False
    | _ => False
  | .new e, ρ, G, X, Q => wpE e ρ G X fun r ρ1 G1 => match r with
      | .tmp c => ∀ a, G1 a = none → Q (.u (.ref a)) ρ1 (put G1 a (.con c))
      | _ => False
  | .itl it, ρ, G, X, Q => wpIt it ρ G X fun src ρ1 G1 => match src with
      | .fix xs => xs.length ≤ sizeLine ∧ Q (.tmp (.lst xs)) ρ1 G1
      | .slot _ _ xs => xs.length ≤ sizeLine ∧ Q (.tmp (.lst xs)) ρ1 G1
      | .heap _ _ xs => xs.length ≤ sizeLine ∧ Q (.tmp (.lst xs)) ρ1 G1
noncomputable def wpEs : Es → Rho → Hh → Xc → (List R → Rho → Hh → Prop) → Prop
  | .nil, ρ, G, _, Q => Q [] ρ G
  | .cons e es, ρ, G, X, Q => wpE e ρ G X fun r ρ1 G1 => wpEs es ρ1 G1 X fun rs ρ2 G2 => Q (r :: rs) ρ2 G2
noncomputable def wpAnd : Es → Rho → Hh → Xc → Kc → Prop
  | .nil, _, _, _, _ => False
  | .cons e es, ρ, G, X, Q => match es with
    | .nil => wpE e ρ G X Q
    | .cons _ _ => wpE e ρ G X fun ra ρ1 G1 => tstK ra ρ1 G1 fun b => Br b (wpAnd es ρ1 G1 X Q) (Q (bvl ra false) ρ1 G1)
noncomputable def wpOr : Es → Rho → Hh → Xc → Kc → Prop
  | .nil, _, _, _, _ => False
  | .cons e es, ρ, G, X, Q => match es with
    | .nil => wpE e ρ G X Q
    | .cons _ _ => wpE e ρ G X fun ra ρ1 G1 => tstK ra ρ1 G1 fun b => Br b (Q (bvl ra true) ρ1 G1) (wpOr es ρ1 G1 X Q)
noncomputable def wpO : Oe → Rho → Hh → Xc → (Option R → Rho → Hh → Prop) → Prop
  | .none, ρ, G, _, Q => Q none ρ G
  | .some e, ρ, G, X, Q => wpE e ρ G X fun r ρ1 G1 => Q (some r) ρ1 G1
noncomputable def asgT : T → R → Rho → Hh → Xc → (Rho → Hh → Prop) → Prop
  | .nm i, r, ρ, G, _, Q => asgN i r ρ fun ρ1 => Q ρ1 G
  | .tp ts, r, ρ, G, X, Q => match r with
    | .u (.tup xs) => xs.length = tsLen ts ∧ asgTs ts xs ρ G X Q
    | _ => False
  | .ix a b, r, ρ, G, X, Q => wpE a ρ G X fun ro ρ1 G1 => wpE b ρ1 G1 X fun ri ρ2 G2 => toU r ρ2 fun v ρ3 => ixK ri fun i => vwK ro ρ3 G2 fun o => setU o i v fun o' => putR ro o' ρ3 G2 Q
  | .fd a f, r, ρ, G, X, Q => wpE a ρ G X fun ro ρ1 G1 => toU r ρ1 fun v ρ2 => putA P ro f v G1 fun G2 => Q ρ2 G2
noncomputable def asgTs : Ts → List U → Rho → Hh → Xc → (Rho → Hh → Prop) → Prop
  | .nil, xs, ρ, G, _, Q => xs = [] ∧ Q ρ G
  | .cons t ts, xs, ρ, G, X, Q => match xs with
    | x :: xs => asgT t (.u x) ρ G X fun ρ1 G1 => asgTs ts xs ρ1 G1 X Q
    | [] => False
noncomputable def wpIt : It → Rho → Hh → Xc → (Src → Rho → Hh → Prop) → Prop
  | .seq e, ρ, G, X, Q => wpE e ρ G X fun r ρ1 G1 => srcK r ρ1 G1 anyU id fun s => Q s ρ1 G1
  | .rng a, ρ, G, X, Q => wpE a ρ G X fun r ρ1 G1 => match r with
      | .u (.int n) => (n < 2 ^ 62 ∧ -(2 ^ 62) ≤ n) ∧ Q (.fix (rangeI 0 n)) ρ1 G1
      | _ => False
  | .rng2 a b, ρ, G, X, Q => wpE a ρ G X fun r ρ1 G1 => wpE b ρ1 G1 X fun q ρ2 G2 => match r with
      | .u (.int m) => match q with
        | .u (.int n) => (n < 2 ^ 62 ∧ -(2 ^ 62) ≤ n ∧ m < 2 ^ 62 ∧ -(2 ^ 62) ≤ m) ∧ Q (.fix (rangeI m n)) ρ2 G2
        | _ => False
      | _ => False
  | .enm e, ρ, G, X, Q => wpE e ρ G X fun r ρ1 G1 => srcK r ρ1 G1 isLT (enumI 0) fun s => Q s ρ1 G1
  | .zip a b, ρ, G, X, Q => wpE a ρ G X fun r ρ1 G1 => wpE b ρ1 G1 X fun q ρ2 G2 => match r with
      | .u x => match q with
        | .u y => zipK x y fun us => Q (.fix us) ρ2 G2
        | _ => False
      | _ => False
  | .rev e, ρ, G, X, Q => wpE e ρ G X fun r ρ1 G1 => srcK r ρ1 G1 isLT List.reverse fun s => Q s ρ1 G1
end
end
section
variable (P : Pg)
noncomputable def whlN (test : Rho → Hh → (Bool → Rho → Hh → Prop) → Prop) (body : Rho → Hh → (Rho → Hh → Prop) → Prop) : Nat → Rho → Hh → (Rho → Hh → Prop) → Prop
  | 0, _, _, _ => False
  | n + 1, ρ, G, Q => test ρ G fun b ρ1 G1 => Br b (body ρ1 G1 fun ρ2 G2 => ∃ G3, Sub G3 G2 ∧ whlN test body n ρ2 G3 Q) (Q ρ1 G1)
mutual
noncomputable def wpS : Cal → S → Rho → Hh → Nx → Kc → Nx → Xc → Prop
  | _, .no, _, _, _, _, _, _ => False
  | Γ, .ex e, ρ, G, nx, _, _, ex => wpE P Γ e ρ G ex fun _ ρ1 G1 => nx ρ1 G1
  | Γ, .asg t e, ρ, G, nx, _, _, ex => wpE P Γ e ρ G ex fun r ρ1 G1 => asgT P Γ t r ρ1 G1 ex nx
  | Γ, .ret e, ρ, G, _, rt, _, ex => wpE P Γ e ρ G ex rt
  | Γ, .retn, ρ, G, _, rt, _, _ => rt (.u .non) ρ G
  | Γ, .ite c a b, ρ, G, nx, rt, ct, ex => wpE P Γ c ρ G ex fun r ρ1 G1 => tstK r ρ1 G1 fun k => Br k (wpSs Γ a ρ1 G1 nx rt ct ex) (wpSs Γ b ρ1 G1 nx rt ct ex)
  | Γ, .for_ t it b, ρ, G, nx, rt, _, ex => wpIt P Γ it ρ G ex fun src ρ1 G1 => forK src (fun x ρ2 G2 K => asgT P Γ t (.u x) ρ2 G2 ex fun ρ3 G3 => wpSs Γ b ρ3 G3 K rt K ex) ρ1 G1 nx
  | Γ, .whl c b, ρ, G, nx, rt, _, ex => ∃ n, whlN (fun ρ1 G1 K => wpE P Γ c ρ1 G1 ex fun r ρ2 G2 => tstK r ρ2 G2 fun k => K k ρ2 G2) (fun ρ1 G1 K => wpSs Γ b ρ1 G1 K rt K ex) n ρ G nx
  | Γ, .rais k args, ρ, G, _, _, _, ex => wpEs P Γ args ρ G ex fun rs ρ1 G1 => toUs rs ρ1 fun vs ρ2 => ex k vs ρ2 G1
  | Γ, .tri b hs, ρ, G, nx, rt, ct, ex => wpSs Γ b ρ G nx rt ct fun k as ρ1 G1 => wpHs Γ hs k as ρ1 G1 nx rt ct ex
  | Γ, .pass, ρ, G, nx, _, _, _ => nx ρ G
  | Γ, .cont, ρ, G, _, _, ct, _ => ct ρ G
  | Γ, .fork i t b, ρ, G, nx, rt, _, _ => match ρ[i]? with
    | some (some sv) => forkK i sv ρ G (fun rt' x ρ2 G2 K => asgT P Γ t (.u x) ρ2 G2 (fun _ _ _ _ => False) fun ρ3 G3 => wpSs Γ b ρ3 G3 K rt' K fun _ _ _ _ => False) rt nx
    | _ => False
  | Γ, .lend i s, ρ, G, nx, _, _, _ => match ρ[i]? with
    | some (some (.own c)) => ∀ p, setK ρ i (some (.fz p c)) fun ρ0 => wpS Γ s ρ0 G (fun ρ' G' => ρ'[i]? = some (some (.fz p c)) ∧ FzS i 0 ρ ρ' ∧ setK ρ' i (some (.own c)) fun ρ2 => nx ρ2 G') (fun _ _ _ => False) (fun _ _ => False) (fun _ _ _ _ => False)
    | _ => False
  | Γ, .forx t a b, ρ, G, nx, rt, _, ex => wpE P Γ a ρ G ex fun r ρ1 G1 => keysK r ρ1 fun ks ρ2 => forI (fun _ _ => True) (fun x ρ2 G2 K => asgT P Γ t (.u x) ρ2 G2 (fun _ _ _ _ => False) fun ρ3 G3 => wpSs Γ b ρ3 G3 K rt K fun _ _ _ _ => False) ks ρ2 G1 nx
  | Γ, .par i j a b, ρ, G, nx, _, _, ex => wpEs P Γ (.cons a (.cons b .nil)) ρ G ex fun rs ρ1 G1 => parK rs fun v w => setK ρ1 i (some (.u v)) fun ρ2 => setK ρ2 j (some (.u w)) fun ρ3 => nx ρ3 G1
noncomputable def wpSs : Cal → Ss → Rho → Hh → Nx → Kc → Nx → Xc → Prop
  | Γ, .nil, ρ, G, nx, _, _, _ => nx ρ G
  | Γ, .cons s ss, ρ, G, nx, rt, ct, ex => wpS Γ s ρ G (fun ρ1 G1 => wpSs Γ ss ρ1 G1 nx rt ct ex) rt ct ex
noncomputable def wpHs : Cal → Hs → Nat → List U → Rho → Hh → Nx → Kc → Nx → Xc → Prop
  | Γ, .nil, k, as, ρ, G, _, _, _, ex => ex k as ρ G
  | Γ, .cons ks sl b hs, k, as, ρ, G, nx, rt, ct, ex => Br (ks.any (fun j => P.sup k j))
      (match sl with
      | some i => ∀ a d, setK ρ i (some (.exc a (xcV d (P.xfs k) as))) fun ρ0 => wpSs ⟨Γ.fn, some (a, xcD d as, k, as)⟩ b ρ0 G (fun ρ1 G1 => setK ρ1 i none fun ρ2 => nx ρ2 G1) rt (fun ρ1 G1 => setK ρ1 i none fun ρ2 => ct ρ2 G1) (fun _ _ _ _ => False)
      | none => wpSs Γ b ρ G nx rt ct (fun _ _ _ _ => False))
      (wpHs Γ hs k as ρ G nx rt ct ex)
end
end
/-- what a def hands back: a slot's list is the caller's then -/
noncomputable def finR (r : R) (ρ : Rho) (K : R → Prop) : Prop :=
  match r with
  | .lv i => match ρ[i]? with
    | some (some (.own c)) => K (.tmp c)
    | _ => False
  | .exc _ => False
  | r => K r
noncomputable def fin (r : R) (ρ : Rho) (G : Hh) (Q : R → Hh → Prop) : Prop := finR r ρ fun r' => ∃ G', Sub G' G ∧ Q r' G'
noncomputable def callN (P : Pg) : Nat → CalF
  | 0 => fun _ _ _ _ _ => False
  | n + 1 => fun f svs G X Q => optK (P.fns f) fun d => startK d.np svs d.nl fun ρ => wpSs P (callN P n) d.body ρ G
      (fun ρ G' => fin (.u .non) ρ G' Q) (fun r ρ G' => fin r ρ G' Q) (fun _ _ => False) (fun k as _ G' => ∃ G'', Sub G'' G' ∧ X k as G'')
end Mp
namespace Mp
open PySem
structure Ck where
  N : List Str
  sc : Scope
  blk : Option Scope
  fnm : List (Nat × Str)
  cnm : List (Nat × Str)
  cst : List (Str × U)
  /-- own exceptions that are raised without a word -/
  xnm : List (Nat × Str) := []
  /-- fields -/
  fdn : List (Nat × Str) := []
  /-- methods: def, class, name -/
  mth : List (Nat × Nat × Str) := []
  /-- classes: their __init__ def, class, name -/
  mks : List (Nat × Nat × Str) := []
  /-- own exceptions with one argument -/
  xn1 : List (Nat × Str) := []
  /-- within an except suite -/
  hot : Bool := false
  /-- dicts of the module -/
  kdn : List (Nat × Str) := []
noncomputable def visB (sc : Scope) (x : Str) : Bool :=
  match sc.names.lookup x with
  | some .local => true
  | some .cell => true
  | some .free => true
  | _ => false
noncomputable def locB (sc : Scope) (x : Str) : Bool :=
  match sc.names.lookup x with
  | some .local => true
  | some .cell => true
  | _ => false
noncomputable def lclB (sc : Scope) (x : Str) : Bool :=
  match sc.names.lookup x with
  | some .local => true
  | _ => false
noncomputable def glB (sc : Scope) (x : Str) : Bool :=
  match sc.names.lookup x with
  | some .globalImplicit => true
  | _ => false
noncomputable def strS (s : List Nat) : Str := ⟨s.toArray⟩
noncomputable def goodB (s : List Nat) : Bool := decide (s.length ≤ 1000) && s.all fun c => decide (c < 1114112)
noncomputable def okNm (x : Str) : Bool := decide (x ≠ ("__debug__" : Str)) && decide (x ≠ ("__classdict__" : Str)) && decide (x ≠ ("__name__" : Str))
noncomputable def Ck.loc (K : Ck) (i : Nat) (x : Str) : Bool := decide (K.N[i]? = some x) && visB K.sc x && okNm x
noncomputable def Ck.sto (K : Ck) (i : Nat) (x : Str) : Bool := decide (K.N[i]? = some x) && okNm x && (match K.blk with
  | none => locB K.sc x
  | some s => locB s x)
noncomputable def Ck.glob (K : Ck) (x : Str) : Bool := glB K.sc x && okNm x
noncomputable def Bf.name : Bf → String
  | .len => "len" | .int => "int" | .str => "str" | .list => "list" | .tuple => "tuple" | .abs => "abs" | .sum => "sum" | .all => "all" | .any => "any" | .min => "min" | .max => "max" | .sorted => "sorted" | .dict => "dict" | .rev => "reversed" | .lset => "set" | .lrev => "reversed" | .maxz => "max" | .maxm => "max" | .tdict => "dict" | .sset => "set" | .lsa => "set"
noncomputable def Mt.name : Mt → String
  | .append => "append" | .extend => "extend" | .pop => "pop" | .sindex => "index" | .join => "join" | .startswith => "startswith" | .split => "split" | .get => "get" | .dpop => "pop" | .lindex => "index" | .popi => "pop" | .part => "partition" | .rpart => "rpartition" | .scount => "count" | .islow => "islower" | .isdig => "isdigit" | .lcount => "count" | .dclear => "clear" | .tget => "get" | .tpop => "pop"
noncomputable def BOp.op : BOp → Operator
  | .add => .Add | .sub => .Sub | .mul => .Mult | .fdiv => .FloorDiv | .mod => .Mod | .pow => .Pow
noncomputable def COp.op : COp → CmpOp
  | .eq => .Eq | .ne => .NotEq | .lt => .Lt | .le => .LtE | .gt => .Gt | .ge => .GtE | .inn => .In | .nin => .NotIn | .deq => .Eq | .dne => .NotEq
noncomputable def Ck.isNm (K : Ck) (n : String) : Expr → Bool
  | .Name x _ => decide (x = Str.ofString n) && K.glob x
  | _ => false
noncomputable def Ck.ty (K : Ck) (t : Ty) (e : Expr) : Bool :=
  match t with
  | .int => K.isNm "int" e
  | .bool => K.isNm "bool" e
  | .str => K.isNm "str" e
  | .list => K.isNm "list" e
  | .tuple => K.isNm "tuple" e
  | .dict => K.isNm "dict" e
  | .cls _ => false
noncomputable def ownOf (N : List Str) (own : List Nat) : List (Str × Nat) := own.map fun i => (N.getD i ⟨#[]⟩, i)
noncomputable def Ck.inner (K : Ck) (scope : Scope) : Ck := { K with sc := L2.relS scope K.sc, blk := some scope }
noncomputable def plainX : Expr → Bool
  | .Starred _ _ => false
  | .Slice _ _ _ _ => false
  | .Set _ _ _ => false
  | _ => true
/-- a test of it asks its value -/
noncomputable def plainT : Expr → Bool
  | .UnaryOp .Not _ _ => false
  | .BoolOp _ _ _ => false
  | .IfExp _ _ _ _ => false
  | .Compare _ _ _ _ => false
  | _ => true
noncomputable def notSup : Expr → Bool
  | .Call (.Name id _) _ _ _ => decide (id ≠ "super")
  | _ => true
noncomputable def isTup : Expr → Bool
  | .Tuple _ _ _ => true
  | _ => false
noncomputable def itT (it : It) (tg : Expr) : Bool :=
  match it with
  | .enm _ => isTup tg
  | .zip _ _ => isTup tg
  | _ => true
noncomputable def dclsB (K : Ck) : List Nat → List Expr → Bool
  | [], [] => true
  | k :: ks, .Name x _ :: es => K.glob x && decide (K.cnm.lookup k = some x) && dclsB K ks es
  | _, _ => false
noncomputable def Mt.isD : Mt → Bool
  | .get => true | .dpop => true | .dclear => true | .tget => true | .tpop => true | _ => false
noncomputable def fewD (m : Mt) : Es → Bool
  | .nil => decide (m = .dclear)
  | .cons _ .nil => decide (m ≠ .dclear)
  | .cons _ (.cons _ .nil) => decide (m ≠ .dclear) && decide (m ≠ .tpop)
  | _ => false
/-- texts as keys -/
noncomputable def ckKs : Es → List (Option Expr) → Bool
  | .nil, es => match es with
    | [] => true
    | _ :: _ => false
  | .cons k ks, es => match es with
    | [] => false
    | oe :: es => (match k, oe with
      | .str s, some (.Constant (.str t) _ _) => decide (strS s = t) && goodB s
      | _, _ => false) && ckKs ks es
noncomputable def esNil : Es → Bool
  | .nil => true
  | .cons _ _ => false
mutual
noncomputable def ckE (K : Ck) (m : E) (e : Expr) : Bool := plainX e && match m with
  | .loc i => match e with
    | .Name x _ => K.loc i x
    | _ => false
  | .no => true
  | .int i => match e with
    | .Constant (.int j) _ _ => decide (i = j)
    | _ => false
  | .str s => match e with
    | .Constant (.str t) _ _ => decide (strS s = t) && goodB s
    | _ => false
  | .bl b => match e with
    | .Constant (.bool c) _ _ => decide (b = c)
    | _ => false
  | .non => match e with
    | .Constant .none _ _ => true
    | _ => false
  | .cst v => match e with
    | .Name x _ => K.glob x && (K.cst.any fun p => decide (p.1 = x) && (match v, p.2 with
        | .int i, .int j => decide (i = j)
        | .str s, .str t => decide (s = t) && goodB s
        | _, _ => false))
    | _ => false
  | .bin op a b => match e with
    | .BinOp x o y _ => decide (o = op.op) && ckE K a x && ckE K b y
    | _ => false
  | .neg a => match e with
    | .UnaryOp .USub x _ => ckE K a x
    | _ => false
  | .not_ a => match e with
    | .UnaryOp .Not x _ => ckE K a x
    | _ => false
  | .and_ a es => match e with
    | .BoolOp .And (x :: y :: xs) _ => ckE K a x && ckEs K es (y :: xs)
    | _ => false
  | .or_ a es => match e with
    | .BoolOp .Or (x :: y :: xs) _ => ckE K a x && ckEs K es (y :: xs)
    | _ => false
  | .cmp op a b => match e with
    | .Compare x [o] [y] _ => decide (o = op.op) && ckE K a x && ckE K b y
    | _ => false
  | .chain o1 o2 a b c => match e with
    | .Compare x [p1, p2] [y, z] _ => decide (p1 = o1.op) && decide (p2 = o2.op) && ckE K a x && ckE K b y && ckE K c z
    | _ => false
  | .isN a neg => match e with
    | .Compare x [o] [.Constant .none _ _] _ => decide (o = if neg then .IsNot else .Is) && ckE K a x
    | _ => false
  | .isB a v neg => match e with
    | .Compare x [o] [.Constant (.bool c) _ _] _ => decide (o = if neg then .IsNot else .Is) && decide (v = c) && ckE K a x
    | _ => false
  | .idx a b => match e with
    | .Subscript x y _ => ckE K a x && ckE K b y
    | _ => false
  | .kix d b => match e with
    | .Subscript (.Name x _) y _ => K.glob x && decide (K.kdn.lookup d = some x) && ckE K b y
    | _ => false
  | .kin d b neg => match e with
    | .Compare y [o] [.Name x _] _ => decide (o = if neg then .NotIn else .In) && K.glob x && decide (K.kdn.lookup d = some x) && ckE K b y
    | _ => false
  | .slc a lo hi => match e with
    | .Subscript x (.Slice l h none _) _ => ckE K a x && ckO K lo l && ckO K hi h
    | _ => false
  | .fld a f => match e with
    | .Attribute x n _ => decide (K.fdn.lookup f = some n) && ckE K a x && notSup x
    | _ => false
  | .frz i => match e with
    | .Name x _ => K.loc i x
    | _ => false
  | .exf i f => match e with
    | .Attribute (.Name x _) n _ => K.loc i x && decide (K.fdn.lookup f = some n) && decide (x ≠ "super")
    | _ => false
  | .call f args => match e with
    | .Call (.Name x _) es [] _ => !K.hot && K.glob x && decide (K.fnm.lookup f = some x) && ckEs K args es
    | _ => false
  | .make k f args => match e with
    | .Call (.Name x _) es [] _ => !K.hot && K.glob x && decide (K.mks.lookup f = some (k, x)) && ckEs K args es
    | _ => false
  | .meth k f o args => match e with
    | .Call (.Attribute x n ap) es [] cp => !K.hot && decide (K.mth.lookup f = some (k, n)) && ckE K o x && ckEs K args es && notSup x && (ap.endLine == cp.line) && decide (es.length < 9)
    | _ => false
  | .bcall b args => match e with
    | .Call x es [] _ => (!K.hot || decide (b = .int)) && (match b with
      | .rev => false
      | .lset => (match es with
        | [.Call y [z] [] _] => K.isNm "len" x && K.isNm "set" y && ckEs K args [z]
        | _ => false)
      | .lrev => (match es with
        | [.Call y [z] [] _] => K.isNm "list" x && K.isNm "reversed" y && ckEs K args [z]
        | _ => false)
      | .sset => (match es with
        | [.Call y [z] [] _] => K.isNm "sorted" x && K.isNm "set" y && ckEs K args [z]
        | _ => false)
      | .lsa => (match es with
        | [.Call y [z] [] _] => K.isNm "len" x && K.isNm "set" y && ckEs K args [z]
        | _ => false)
      | .maxz => false
      | .maxm => false
      | b => K.isNm b.name x && ckEs K args es)
    | .Call x es [⟨some n, .Constant (.int j) _ _, _⟩] _ => !K.hot && decide (b = .maxz) && decide (n = Str.ofString "default") && decide (j = 0) && decide (es.length = 1) && K.isNm "max" x && ckEs K args es
    | .Call x es [⟨some n, .UnaryOp .USub (.Constant (.int j) _ _) _, _⟩] _ => !K.hot && decide (b = .maxm) && decide (n = Str.ofString "default") && decide (j = 1) && decide (es.length = 1) && K.isNm "max" x && ckEs K args es
    | .Subscript x (.Slice none none (some (.UnaryOp .USub (.Constant (.int j) _ _) _)) _) _ => decide (b = .rev) && decide (j = 1) && ckEs K args [x]
    | _ => false
  | .bmeth m o args => match e with
    | .Call (.Attribute x n ap) es [] cp => (!K.hot || decide (m = .append)) && decide (n = Str.ofString m.name) && ckE K o x && ckEs K args es && notSup x && (ap.endLine == cp.line) && decide (es.length < 9) && (!m.isD || fewD m args)
    | _ => false
  | .isx i j => match e with
    | .Call f [.Name x _, .Name y _] [] _ => K.isNm "isinstance" f && K.loc i x && K.glob y && decide (K.cnm.lookup j = some y)
    | _ => false
  | .isxs i js => match e with
    | .Call f [.Name x _, .Tuple ys _ _] [] _ => K.isNm "isinstance" f && K.loc i x && dclsB K js ys && decide (ys.length ≤ 1000)
    | _ => false
  | .isin a ts => match e with
    | .Call f [x, t] [] _ => K.isNm "isinstance" f && ckE K a x && (match ts with
        | [ty] => K.ty ty t
        | _ => false)
    | _ => false
  | .tup es => match e with
    | .Tuple xs _ _ => ckEs K es xs && decide (xs.length ≤ 1000)
    | _ => false
  | .lst es => match e with
    | .List xs _ => ckEs K es xs && decide (xs.length ≤ 1000)
    | _ => false
  | .dit0 => match e with
    | .Dict [] [] _ => true
    | _ => false
  | .dic ks vs => match e with
    | .Dict keys vals _ => (match keys with
      | [] => esNil ks && esNil vs && vals.isEmpty
      | _ :: _ => ckKs ks keys && ckEs K vs vals && decide (keys.length = vals.length) && decide (keys.length ≤ 15) && (match litS ks with
        | some ss => decide ss.Nodup
        | none => false))
    | _ => false
  | .lc elt t it c own => match e with
    | .ListComp x [⟨tg, iter, ifs, 0⟩] scope _ => !K.hot && ckIt K it iter && itT it tg && L2.blkC K.N K.sc scope (ownOf K.N own) && tgB own t && ckT (K.inner scope) t tg && ckE (K.inner scope) elt x &&
        (match ifs with
        | [] => (match c with
          | .none => true
          | .some _ => false)
        | [y] => ckO (K.inner scope) c (some y)
        | _ => false)
    | _ => false
  | .lck elt t a c own => match e with
    | .ListComp x [⟨tg, iter, ifs, 0⟩] scope _ => !K.hot && ckE K a iter && L2.blkC K.N K.sc scope (ownOf K.N own) && tgB own t && ckT (K.inner scope) t tg && ckE (K.inner scope) elt x &&
        (match ifs with
        | [] => (match c with
          | .none => true
          | .some _ => false)
        | [y] => ckO (K.inner scope) c (some y)
        | _ => false)
    | _ => false
  | .lcs elt t i c own => match e with
    | .ListComp x [⟨tg, .Name y _, ifs, 0⟩] scope _ => !K.hot && K.loc i y && L2.blkC K.N K.sc scope (ownOf K.N own) && tgB own t && ckT (K.inner scope) t tg && ckE (K.inner scope) elt x &&
        (match ifs with
        | [] => (match c with
          | .none => true
          | .some _ => false)
        | [y] => ckO (K.inner scope) c (some y)
        | _ => false)
    | _ => false
  | .new a => ckE K a e && plainT e
  | .itl it => match e with
    | .Call f [x] [] _ => !K.hot && K.isNm "list" f && ckIt K it x && plainX x && (match it with
        | .rng _ => true
        | .rng2 _ _ => true
        | _ => false)
    | _ => false
noncomputable def ckEs (K : Ck) : Es → List Expr → Bool
  | .nil, es => match es with
    | [] => true
    | _ :: _ => false
  | .cons a as, es => match es with
    | [] => false
    | e :: es => ckE K a e && ckEs K as es
noncomputable def ckO (K : Ck) : Oe → Option Expr → Bool
  | .none, e => match e with
    | none => true
    | some _ => false
  | .some a, e => match e with
    | none => false
    | some x => ckE K a x
noncomputable def ckT (K : Ck) : T → Expr → Bool
  | .nm i, e => match e with
    | .Name x _ => K.sto i x
    | _ => false
  | .tp ts, e => match e with
    | .Tuple es _ _ => !K.hot && ckTs K ts es
    | _ => false
  | .ix a b, e => match e with
    | .Subscript x y _ => ckE K a x && ckE K b y
    | _ => false
  | .fd a f, e => match e with
    | .Attribute x n _ => decide (K.fdn.lookup f = some n) && ckE K a x
    | _ => false
noncomputable def ckTs (K : Ck) : Ts → List Expr → Bool
  | .nil, es => match es with
    | [] => true
    | _ :: _ => false
  | .cons t ts, es => match es with
    | [] => false
    | e :: es => ckT K t e && ckTs K ts es
noncomputable def ckIt (K : Ck) : It → Expr → Bool
  | .seq a, e => ckE K a e
  | .rng a, e => match e with
    | .Call f [x] [] _ => K.isNm "range" f && ckE K a x
    | _ => false
  | .rng2 a b, e => match e with
    | .Call f [x, y] [] _ => K.isNm "range" f && ckE K a x && ckE K b y
    | _ => false
  | .enm a, e => match e with
    | .Call f [x] [] _ => K.isNm "enumerate" f && ckE K a x
    | _ => false
  | .zip a b, e => match e with
    | .Call f [x, y] [] _ => !K.hot && K.isNm "zip" f && ckE K a x && ckE K b y
    | _ => false
  | .rev a, e => match e with
    | .Call f [x] [] _ => K.isNm "reversed" f && ckE K a x
    | _ => false
end
noncomputable def isLc : Expr → Bool
  | .ListComp _ _ _ _ => true
  | .SetComp _ _ _ _ => true
  | .DictComp _ _ _ _ _ => true
  | _ => false
noncomputable def notNm : Expr → Bool
  | .Name _ _ => false
  | _ => true
/-- a comprehension stored under a local name, on its line -/
noncomputable def lcNm (K : Ck) : Expr → Expr → Bool
  | .Name y py, .ListComp _ _ scope pos => (py.line == pos.line) && (match K.sc.names.lookup y with
    | some .local => true
    | _ => false) && !(scope.names.any fun (n, k) => n == y && (k == .local || k == .cell))
  | _, _ => false
/-- a name that inner blocks read -/
noncomputable def celNm (K : Ck) : Expr → Bool
  | .Name y _ => (match K.sc.names.lookup y with
    | some .cell => true
    | _ => false)
  | _ => false
/-- one clause with a name, or clauses without -/
noncomputable def noAs : Hs → Bool
  | .nil => true
  | .cons _ none _ hs => noAs hs
  | .cons _ (some _) _ _ => false
noncomputable def oneAs : Hs → Bool
  | .cons _ (some _) _ .nil => true
  | hs => noAs hs
mutual
noncomputable def ckS (K : Ck) : S → Stmt → Bool
  | .no, _ => true
  | .ex a, s => match s with
    | .Expr e _ => ckE K a e && !isLc e
    | _ => false
  | .asg t a, s => match s with
    | .Assign [tg] e _ => ckT K t tg && ckE K a e && !(isTup tg && isTup e) && (!isLc e || notNm tg || celNm K tg || (!K.hot && lcNm K tg e && (match a with
        | .lc _ _ _ _ _ => true
        | _ => false) && (match t with
        | .nm _ => true
        | _ => false)))
    | _ => false
  | .ret a, s => match s with
    | .Return (some e) _ => ckE K a e
    | _ => false
  | .retn, s => match s with
    | .Return none _ => true
    | _ => false
  | .ite c a b, s => match s with
    | .If e x y _ => ckE K c e && ckSs K a x && ckSs K b y
    | _ => false
  | .for_ t it b, s => match s with
    | .For tg iter x [] _ => !K.hot && ckT K t tg && ckIt K it iter && itT it tg && ckSs K b x
    | _ => false
  | .fork i t b, s => match s with
    | .For tg (.Name x _) ss [] _ => !K.hot && K.loc i x && ckT K t tg && ckSs K b ss
    | _ => false
  | .lend _ m, s => ckS K m s
  | .forx t a b, s => match s with
    | .For tg iter ss [] _ => !K.hot && ckE K a iter && ckT K t tg && ckSs K b ss
    | _ => false
  | .whl c b, s => match s with
    | .While e x [] _ => ckE K c e && ckSs K b x
    | _ => false
  | .rais k args, s => match s with
    | .Raise (some (.Call (.Name x _) es [] _)) none _ => !K.hot && K.glob x && (match args, es with
        | .nil, [] => decide (K.xnm.lookup k = some x)
        | .cons a .nil, [e] => decide (K.xn1.lookup k = some x) && ckE K a e
        | _, _ => false)
    | _ => false
  | .tri b hs, s => match s with
    | .Try x (h :: hl) [] [] _ => !K.hot && ckSs K b x && ckHs K hs (h :: hl) && oneAs hs
    | _ => false
  | .pass, s => match s with
    | .Pass _ => true
    | _ => false
  | .cont, s => match s with
    | .Continue _ => true
    | _ => false
  | .par i j a b, s => match s with
    | .Assign [.Tuple [.Name x px, .Name y py] _ _] (.Tuple [e1, e2] _ _) _ => !K.hot && K.sto i x && K.sto j y && decide (i ≠ j) && decide (x ≠ y) && lclB K.sc x && lclB K.sc y && (px.line == py.line) && ckE K a e1 && ckE K b e2 && !(foldedForSure 8 e1 && foldedForSure 8 e2) && !(constantsAlone 8 e1 && constantsAlone 8 e2)
    | _ => false
noncomputable def ckHs (K : Ck) : Hs → List ExceptHandler → Bool
  | .nil, hl => match hl with
    | [] => true
    | _ :: _ => false
  | .cons ks sl b hs, hl => match hl with
    | .ExceptHandler (some (.Name x _)) n (y :: ys) _ :: hl => K.glob x && (match ks with
        | [j] => decide (K.cnm.lookup j = some x)
        | _ => false) && (match sl, n with
        | some i, some z => K.sto i z && lclB K.sc z
        | none, none => true
        | _, _ => false) && ckSs { K with hot := true } b (y :: ys) && ckHs K hs hl
    | _ => false
noncomputable def ckSs (K : Ck) : Ss → List Stmt → Bool
  | .nil, ss => match ss with
    | [] => true
    | _ :: _ => false
  | .cons m ms, ss => match ss with
    | [] => false
    | s :: ss => ckS K m s && ckSs K ms ss
end
end Mp
namespace Mp
open PySem L2
/-- what is known of a heap and is not excepted stays, and stays so -/
noncomputable def Ext (H : Hp) (ex : Addr → Prop) (H' : Hp) (ex' : Addr → Prop) : Prop := ∀ a o, H a = some o → ¬ ex a → H' a = some o ∧ ¬ ex' a
theorem Ext.refl (H : Hp) (ex : Addr → Prop) : Ext H ex H ex := fun _ _ h n => ⟨h, n⟩
theorem Ext.trans {H H1 H2 : Hp} {e e1 e2 : Addr → Prop} (h : Ext H e H1 e1) (k : Ext H1 e1 H2 e2) : Ext H e H2 e2 := fun a o x n => k a o (h a o x n).1 (h a o x n).2
theorem Ext.sub {H : Hp} {e e' : Addr → Prop} (h : ∀ a, e' a → e a) : Ext H e H e' := fun a _ x n => ⟨x, fun q => n (h a q)⟩
/-- a text that may be: not too long, of signs that are -/
noncomputable def GoodS (s : List Nat) : Prop := s.length ≤ sizeLine ∧ ∀ c ∈ s, c < 1114112
theorem GoodS.app {s t : List Nat} (h : GoodS s) (k : GoodS t) (l : s.length + t.length ≤ sizeLine) : GoodS (s ++ t) :=
  ⟨by rw [List.length_append]; exact l, fun c hc => (List.mem_append.mp hc).elim (h.2 c) (k.2 c)⟩
theorem GoodS.subl {s t : List Nat} (h : GoodS s) (l : t.length ≤ s.length) (m : ∀ c ∈ t, c ∈ s) : GoodS t := ⟨Nat.le_trans l h.1, fun c hc => h.2 c (m c hc)⟩
section
variable (K : PySem.W.Frag) (H : Hp) (ex : Addr → Prop)
/-- a tuple: known, or of the written part -/
noncomputable def TpAt (a : Addr) (vs : List V) : Prop := (Rd H a (.tup vs) ∧ ¬ ex a) ∨
  ∃ (o : Obj) (its : Array Value) (n : Nat), K.lookup a = some o ∧ o.cls = .type "tuple" ∧ o.data = .seq its n ∧ its.size ≤ sizeLine ∧ Vals vs its.toList
/-- a list that nobody changes: known, or of the written part -/
noncomputable def LsAt (a : Addr) (vs : List V) : Prop := (Rd H a (.lst vs) ∧ ¬ ex a) ∨
  ∃ (o : Obj) (its : Array Value) (n : Nat), K.lookup a = some o ∧ o.cls = .type "list" ∧ o.dict = none ∧ o.data = .seq its n ∧ its.size ≤ sizeLine ∧ Vals vs its.toList
/-- what an object at a is: a dict with tuples as keys -/
noncomputable def DitR (w : World) (a : Addr) (xs : List (NestedKey × Addr × Value)) : Heap → Prop := fun h => ∃ o es ep, h.get? a = some o ∧ o.ExactDict ∧ o.data = .dict es ep ∧ es.toList = xs.map fun x => ⟨x.1.hash w, .ref x.2.1, x.2.2⟩
mutual
noncomputable def kN : U → NestedKey
  | .non => .none
  | .bl b => .num (if b then 1 else 0)
  | .int i => .num i
  | .str s => .text ⟨s.toArray⟩
  | .tup xs => .tup (kNs xs)
  | _ => .none
noncomputable def kNs : List U → List NestedKey
  | [] => []
  | x :: xs => kN x :: kNs xs
end
noncomputable def kKey : Key → U
  | .inl i => .int i
  | .inr x => .str x.cps.toList
mutual
noncomputable def RepU : U → V → Prop
  | .non, v => v = .non
  | .bl b, v => v = .bl b
  | .int i, v => v = .int i
  | .str s, v => v = .str ⟨s.toArray⟩ ∧ GoodS s
  | .tup xs, v => ∃ a vs, v = .ref a ∧ TpAt K H ex a vs ∧ RepUs xs vs
  | .lst xs, v => ∃ a vs, v = .ref a ∧ LsAt K H ex a vs ∧ RepUs xs vs
  | .dic ks ws, v => ∃ a kvs, v = .ref a ∧ ¬ ex a ∧ Rd H a (.dK kvs) ∧ ks = kvs.map (fun p => kKey p.1) ∧ RepUs ws (kvs.map (·.2))
  | .dit _ _, v => ∃ a, v = .ref a
  | .ref a, v => v = .ref a
noncomputable def RepUs : List U → List V → Prop
  | [], vs => vs = []
  | x :: xs, vs => ∃ v r, vs = v :: r ∧ RepU x v ∧ RepUs xs r
end
/-- the keys as they stand -/
noncomputable def KeyR : List U → List (NestedKey × Addr × Value) → Prop := Paired fun u x => keyT u = true ∧ x.1 = kN u ∧ RepU K H ex u (.ref x.2.1)
/-- a content of a list or dict that may change, at a -/
noncomputable def RepC (w : World) (a : Addr) (u : U) (o : HO) : Prop :=
  match u with
  | .lst xs => ∃ vs, o = .lst vs ∧ RepUs K H ex xs vs
  | .dic ks ws => ∃ kvs, o = .dK kvs ∧ ks = kvs.map (fun p => kKey p.1) ∧ RepUs K H ex ws (kvs.map (·.2))
  | .dit ks ws => ∃ (xs : List (NestedKey × Addr × Value)) (vs : List V), o = .ext (DitR w a xs) ∧ (a == sysModules) = false ∧ xs.length ≤ sizeLine ∧ (xs.map (·.1)).Nodup ∧ KeyR K H ex ks xs ∧ Vals vs (xs.map (·.2.2)) ∧ RepUs K H ex ws vs
  | _ => False
noncomputable def RepFs (fn : Nat → Str) : List (Nat × U) → List (Str × V) → Prop
  | [], fs => fs = []
  | (f, x) :: r, fs => ∃ v q, fs = (fn f, v) :: q ∧ RepU K H ex x v ∧ RepFs fn r q
end
/-- where classes lie, what fields are called -/
structure Cs where
  ca : Nat → Addr
  fn : Nat → Str
  inj : ∀ f g, fn f = fn g → f = g
  /-- the class has the field -/
  fd : Nat → Nat → Bool
  w : World
/-- the class's fields stand in no class -/
noncomputable def FdOk (ca : Nat → Addr) (fn : Nat → Str) (fd : Nat → Nat → Bool) (K : PySem.W.Frag) (k : Nat) : Prop := Cls K (ca k) ∧ ∀ f, fd k f = true → NoAttr K (ca k) (fn f)
noncomputable instance : CoeFun Cs (fun _ => Nat → Addr) := ⟨Cs.ca⟩
theorem Rd.ext {H H' : Hp} {ex ex' : Addr → Prop} {a : Addr} {u : HO} (h : Ext H ex H' ex') (n : ¬ ex a) (r : Rd H a u) : Rd H' a u ∧ ¬ ex' a := by
  rcases r with r | ⟨o, r⟩
  · exact ⟨.inl (h _ _ r n).1, (h _ _ r n).2⟩
  · exact ⟨.inr ⟨o, (h _ _ r n).1⟩, (h _ _ r n).2⟩
mutual
theorem RepU.ext {K : PySem.W.Frag} {H H' : Hp} {ex ex' : Addr → Prop} (h : Ext H ex H' ex') : ∀ (u : U) {v : V}, RepU K H ex u v → RepU K H' ex' u v
  | .non, v, r => by simpa only [RepU] using r
  | .bl _, v, r => by simpa only [RepU] using r
  | .int _, v, r => by simpa only [RepU] using r
  | .str _, v, r => by simpa only [RepU] using r
  | .ref _, v, r => by simpa only [RepU] using r
  | .dit _ _, v, r => by simpa only [RepU] using r
  | .tup xs, v, r => by
    simp only [RepU] at r ⊢
    obtain ⟨a, vs, e, t, q⟩ := r
    refine ⟨a, vs, e, ?_, RepUs.ext h xs q⟩
    rcases t with ⟨t, n⟩ | t
    · exact .inl (Rd.ext h n t)
    · exact .inr t
  | .lst xs, v, r => by
    simp only [RepU] at r ⊢
    obtain ⟨a, vs, e, t, q⟩ := r
    refine ⟨a, vs, e, ?_, RepUs.ext h xs q⟩
    rcases t with ⟨t, n⟩ | t
    · exact .inl (Rd.ext h n t)
    · exact .inr t
  | .dic ks ws, v, r => by
    simp only [RepU] at r ⊢
    obtain ⟨a, kvs, e, n, t, e2, q⟩ := r
    exact ⟨a, kvs, e, (Rd.ext h n t).2, (Rd.ext h n t).1, e2, RepUs.ext h ws q⟩
theorem RepUs.ext {K : PySem.W.Frag} {H H' : Hp} {ex ex' : Addr → Prop} (h : Ext H ex H' ex') : ∀ (us : List U) {vs : List V}, RepUs K H ex us vs → RepUs K H' ex' us vs
  | [], vs, r => by simpa only [RepUs] using r
  | u :: us, vs, r => by
    simp only [RepUs] at r ⊢
    obtain ⟨v, q, e, r1, r2⟩ := r
    exact ⟨v, q, e, RepU.ext h u r1, RepUs.ext h us r2⟩
end
section
variable {K : PySem.W.Frag} {H H' : Hp} {ex ex' : Addr → Prop}
theorem KeyR.ext (h : Ext H ex H' ex') {ks : List U} {xs : List (NestedKey × Addr × Value)} (r : KeyR K H ex ks xs) : KeyR K H' ex' ks xs := Paired.mapP r fun u _ z => ⟨z.1, z.2.1, RepU.ext h u z.2.2⟩
theorem RepC.ext (h : Ext H ex H' ex') {W : World} {a : Addr} {u : U} {o : HO} (r : RepC K H ex W a u o) : RepC K H' ex' W a u o := by
  cases u <;> simp only [RepC] at r ⊢
  · obtain ⟨vs, e, q⟩ := r
    exact ⟨vs, e, RepUs.ext h _ q⟩
  · obtain ⟨kvs, e, e2, q⟩ := r
    exact ⟨kvs, e, e2, RepUs.ext h _ q⟩
  · obtain ⟨xs, vs, e, n, z, nd, k, v, q⟩ := r
    exact ⟨xs, vs, e, n, z, nd, k.ext h, v, RepUs.ext h _ q⟩
theorem RepFs.ext {fn : Nat → Str} (h : Ext H ex H' ex') : ∀ {fs : List (Nat × U)} {gs : List (Str × V)}, RepFs K H ex fn fs gs → RepFs K H' ex' fn fs gs
  | [], _, r => r
  | (f, x) :: fs, gs, r => by
    obtain ⟨v, q, e, r1, r2⟩ := r
    exact ⟨v, q, e, RepU.ext h x r1, RepFs.ext h r2⟩
theorem RepUs.length : ∀ {us : List U} {vs : List V}, RepUs K H ex us vs → us.length = vs.length
  | [], vs, r => by simp only [RepUs] at r; rw [r]; rfl
  | u :: us, vs, r => by
    simp only [RepUs] at r
    obtain ⟨v, q, e, r1, r2⟩ := r
    rw [e, List.length_cons, List.length_cons, RepUs.length r2]
theorem RepUs.append : ∀ {us ws : List U} {vs xs : List V}, RepUs K H ex us vs → RepUs K H ex ws xs → RepUs K H ex (us ++ ws) (vs ++ xs)
  | [], ws, vs, xs, r, q => by simp only [RepUs] at r; rw [r]; exact q
  | u :: us, ws, vs, xs, r, q => by
    simp only [RepUs] at r
    obtain ⟨v, t, e, r1, r2⟩ := r
    rw [e]
    show RepUs K H ex (u :: (us ++ ws)) (v :: (t ++ xs))
    simp only [RepUs]
    exact ⟨v, _, rfl, r1, RepUs.append r2 q⟩
theorem RepUs.get : ∀ {us : List U} {vs : List V} {i : Nat} {u : U}, RepUs K H ex us vs → us[i]? = some u → ∃ v, vs[i]? = some v ∧ RepU K H ex u v
  | [], vs, i, u, r, e => by simp at e
  | x :: us, vs, i, u, r, e => by
    simp only [RepUs] at r
    obtain ⟨v, t, e1, r1, r2⟩ := r
    subst e1
    cases i with
    | zero =>
      simp at e
      subst e
      exact ⟨v, by simp, r1⟩
    | succ i =>
      obtain ⟨w, h1, h2⟩ := RepUs.get (i := i) r2 (by simpa using e)
      exact ⟨w, by simpa using h1, h2⟩
theorem RepUs.take : ∀ {us : List U} {vs : List V} (n : Nat), RepUs K H ex us vs → RepUs K H ex (us.take n) (vs.take n)
  | [], vs, n, r => by simp only [RepUs] at r; rw [r]; simp [RepUs]
  | x :: us, vs, 0, r => by simp [RepUs]
  | x :: us, vs, n + 1, r => by
    simp only [RepUs] at r
    obtain ⟨v, t, e, r1, r2⟩ := r
    rw [e, List.take_succ_cons, List.take_succ_cons]
    simp only [RepUs]
    exact ⟨v, _, rfl, r1, RepUs.take n r2⟩
theorem RepUs.drop : ∀ {us : List U} {vs : List V} (n : Nat), RepUs K H ex us vs → RepUs K H ex (us.drop n) (vs.drop n)
  | [], vs, n, r => by simp only [RepUs] at r; rw [r]; simp [RepUs]
  | x :: us, vs, 0, r => r
  | x :: us, vs, n + 1, r => by
    simp only [RepUs] at r
    obtain ⟨v, t, e, r1, r2⟩ := r
    rw [e]
    exact RepUs.drop n r2
theorem RepUs.reverse : ∀ {us : List U} {vs : List V}, RepUs K H ex us vs → RepUs K H ex us.reverse vs.reverse
  | [], vs, r => by simp only [RepUs] at r; rw [r]; simp [RepUs]
  | x :: us, vs, r => by
    simp only [RepUs] at r
    obtain ⟨v, t, e, r1, r2⟩ := r
    rw [e, List.reverse_cons, List.reverse_cons]
    exact (RepUs.reverse r2).append (by simp only [RepUs]; exact ⟨v, [], rfl, r1, rfl⟩)
theorem RepUs.set : ∀ {us : List U} {vs : List V} (i : Nat) {u : U} {v : V}, RepUs K H ex us vs → RepU K H ex u v → RepUs K H ex (us.set i u) (vs.set i v)
  | [], vs, i, u, v, r, _ => by simp only [RepUs] at r; rw [r]; simp [RepUs]
  | x :: us, vs, 0, u, v, r, q => by
    simp only [RepUs] at r
    obtain ⟨w, t, e, r1, r2⟩ := r
    rw [e, List.set_cons_zero, List.set_cons_zero]
    simp only [RepUs]
    exact ⟨v, t, rfl, q, r2⟩
  | x :: us, vs, i + 1, u, v, r, q => by
    simp only [RepUs] at r
    obtain ⟨w, t, e, r1, r2⟩ := r
    rw [e, List.set_cons_succ, List.set_cons_succ]
    simp only [RepUs]
    exact ⟨w, _, rfl, r1, RepUs.set i r2 q⟩
theorem RepUs.dropLast {us : List U} {vs : List V} (r : RepUs K H ex us vs) : RepUs K H ex us.dropLast vs.dropLast := by
  rw [List.dropLast_eq_take, List.dropLast_eq_take, r.length]
  exact r.take _
end
/-- where the small state may write -/
noncomputable def fp (σ : L2.St) (ρ : Rho) (G : Hh) : Addr → Prop := fun a => (∃ o, G a = some o) ∨ ∃ (i : Nat) (u : U), ρ[i]? = some (some (.own u)) ∧ σ[i]? = some (some (.ref a))
noncomputable def Or2 (A B : Addr → Prop) : Addr → Prop := fun a => A a ∨ B a
noncomputable def One (p : Addr) : Addr → Prop := fun a => a = p
/-- a caught exception: where it lies, its dict with one field -/
noncomputable def RepE (K : PySem.W.Frag) (H : Hp) (ex : Addr → Prop) (a : Addr) (d : Option (Addr × Str × U)) (v : V) : Prop :=
  v = .ref a ∧ match d with
    | none => True
    | some (dd, s, x) => ∃ w, H dd = some (.xd [(s, w)]) ∧ ¬ ex dd ∧ RepU K H ex x w
theorem RepE.ext {K : PySem.W.Frag} {H H' : Hp} {ex ex' : Addr → Prop} {a : Addr} {d : Option (Addr × Str × U)} {v : V} (h : Ext H ex H' ex') (r : RepE K H ex a d v) : RepE K H' ex' a d v := by
  obtain ⟨e, r⟩ := r
  refine ⟨e, ?_⟩
  match d, r with
  | none, _ => trivial
  | some (dd, s, x), ⟨w, h1, h2, h3⟩ => exact ⟨w, (h dd _ h1 h2).1, (h dd _ h1 h2).2, RepU.ext h x h3⟩
section
variable (ca : Cs) (K : PySem.W.Frag) (L : Addr → Prop) (H : Hp) (ex fpr : Addr → Prop)
noncomputable def RepS (sv : SV) (v : V) : Prop :=
  match sv with
  | .u x => RepU K H ex x v
  | .own x => ∃ a o, v = .ref a ∧ H a = some o ∧ RepC K H ex ca.w a x o
  | .fz t x => v = .ref t ∧ (¬ fpr t ∧ L t) ∧ ∃ o, Rd H t o ∧ RepC K H ex ca.w t x o
  | .exc a d => RepE K H ex a d v
noncomputable def RepO (a : Addr) (o : O) (ho : HO) : Prop :=
  match o with
  | .con u => RepC K H ex ca.w a u ho
  | .ins k fs => FdOk ca.ca ca.fn ca.fd K k ∧ (∀ p ∈ fs, ca.fd k p.1 = true) ∧ ∃ dx gs, ho = .ins (ca k) dx gs ∧ RepFs K H ex ca.fn fs gs
end
structure Rep (ca : Cs) (K : PySem.W.Frag) (L Z : Addr → Prop) (σ : L2.St) (H : Hp) (ρ : Rho) (G : Hh) : Prop where
  len : σ.length = ρ.length
  slot : ∀ (i : Nat) (sv : SV), ρ[i]? = some (some sv) → ∃ v, σ[i]? = some (some v) ∧ RepS ca K L H (Or2 (fp σ ρ G) Z) (fp σ ρ G) sv v
  own : ∀ (i j : Nat) (u w : U) (a : Addr), ρ[i]? = some (some (.own u)) → ρ[j]? = some (some (.own w)) → σ[i]? = some (some (.ref a)) → σ[j]? = some (some (.ref a)) → i = j
  ownG : ∀ (i : Nat) (u : U) (a : Addr), ρ[i]? = some (some (.own u)) → σ[i]? = some (some (.ref a)) → G a = none
  heap : ∀ a o, G a = some o → ∃ ho, H a = some ho ∧ RepO ca K H (Or2 (fp σ ρ G) Z) a o ho
  zd : ∀ a, Z a → ¬ fp σ ρ G a ∧ ∃ o, H a = some o
/-- what only the answer r has -/
noncomputable def Hd (r : R) (v : V) : Addr → Prop := fun a => match r with
  | .tmp _ => v = .ref a
  | _ => False
noncomputable def Val (W : World) (K : PySem.W.Frag) (H : Hp) (ex : Addr → Prop) (σ : L2.St) (r : R) (v : V) : Prop := match r with
  | .u x => RepU K H ex x v
  | .tmp x => ∃ p o, v = .ref p ∧ H p = some o ∧ RepC K H ex W p x o
  | .lv i => σ[i]? = some (some v)
  | .exc a => v = .ref a
/-- an expression's answer r, in the state behind: H0, f0 the heap and the write set ahead -/
structure RepR (ca : Cs) (K : PySem.W.Frag) (L Z : Addr → Prop) (σ : L2.St) (H0 : Hp) (f0 : Addr → Prop) (H : Hp) (ρ : Rho) (G : Hh) (r : R) (v : V) : Prop where
  rep : Rep ca K L (Or2 Z (Hd r v)) σ H ρ G
  val : Val ca.w K H (Or2 (fp σ ρ G) (Or2 Z (Hd r v))) σ r v
  new : ∀ p, Hd r v p → (H0 p = none ∨ f0 p) ∧ ¬ Z p
section
variable {ca : Cs} {K : PySem.W.Frag} {L Z Z' : Addr → Prop} {σ : L2.St} {H H' : Hp} {ρ ρ' : Rho} {G G' : Hh} {ex ex' : Addr → Prop} {r : R} {v : V} {u : U}
theorem RepS.ext {f f' : Addr → Prop} (h : Ext H ex H' ex') (hf : ∀ a o, H a = some o → ¬ f a → H' a = some o ∧ ¬ f' a) {sv : SV} (hown : ∀ x a, sv = .own x → v = .ref a → ∀ o, H a = some o → H' a = some o) (r : RepS ca K L H ex f sv v) : RepS ca K L H' ex' f' sv v := by
  cases sv with
  | u x => exact RepU.ext h x r
  | own x =>
    obtain ⟨a, o, e, e2, q⟩ := r
    exact ⟨a, o, e, hown x a rfl e o e2, q.ext h⟩
  | fz t x =>
    obtain ⟨e, ⟨n, l⟩, o, e2, q⟩ := r
    obtain ⟨e3, n3⟩ := Rd.ext (show Ext H f H' f' from hf) n e2
    exact ⟨e, ⟨n3, l⟩, o, e3, q.ext h⟩
  | exc k d => exact RepE.ext h r
theorem RepO.ext (h : Ext H ex H' ex') {a : Addr} {o : O} {ho : HO} (r : RepO ca K H ex a o ho) : RepO ca K H' ex' a o ho := by
  cases o with
  | con u => exact RepC.ext h (show RepC K H ex ca.w a u ho from r)
  | ins k fs =>
    obtain ⟨h1, h2, dx, gs, e, q⟩ := r
    exact ⟨h1, h2, dx, gs, e, q.ext h⟩
/-- fewer reserved addresses -/
theorem Rep.less (R : Rep ca K L Z σ H ρ G) (h : ∀ a, Z' a → Z a) : Rep ca K L Z' σ H ρ G := by
  have hx : Ext H (Or2 (fp σ ρ G) Z) H (Or2 (fp σ ρ G) Z') := Ext.sub fun a q => q.elim .inl fun z => .inr (h a z)
  refine ⟨R.len, fun i sv e => ?_, R.own, R.ownG, fun a o e => ?_, fun a z => R.zd a (h a z)⟩
  · obtain ⟨v, e1, q⟩ := R.slot i sv e
    exact ⟨v, e1, q.ext hx (fun a o x n => ⟨x, n⟩) fun _ _ _ _ _ e => e⟩
  · obtain ⟨ho, e1, q⟩ := R.heap a o e
    exact ⟨ho, e1, q.ext hx⟩
/-- where the write set lies -/
theorem Rep.mut (R : Rep ca K L Z σ H ρ G) {a : Addr} (h : fp σ ρ G a) : ∃ o, H a = some o ∧ ((∃ u, RepC K H (Or2 (fp σ ρ G) Z) ca.w a u o) ∨ ∃ C dx gs, o = .ins C dx gs) := by
  rcases h with ⟨o, e⟩ | ⟨i, u, e1, e2⟩
  · obtain ⟨ho, e1, q⟩ := R.heap a o e
    refine ⟨ho, e1, ?_⟩
    cases o with
    | con u => exact .inl ⟨u, q⟩
    | ins k fs =>
      obtain ⟨_, _, dx, gs, e2, _⟩ := q
      exact .inr ⟨_, dx, gs, e2⟩
  · obtain ⟨v, e3, q⟩ := R.slot i _ e1
    obtain ⟨b, o, e4, e5, q⟩ := q
    rw [e2] at e3
    cases e3
    cases e4
    exact ⟨o, e5, .inl ⟨u, q⟩⟩
/-- the heap changes outside of what the state looks at -/
theorem Rep.heapExt (R : Rep ca K L Z σ H ρ G) (h : ∀ a o, H a = some o → H' a = some o) : Rep ca K L Z σ H' ρ G := by
  have hx : Ext H (Or2 (fp σ ρ G) Z) H' (Or2 (fp σ ρ G) Z) := fun a o e n => ⟨h a o e, n⟩
  refine ⟨R.len, fun i sv e => ?_, R.own, R.ownG, fun a o e => ?_, fun a z => ?_⟩
  · obtain ⟨v, e1, q⟩ := R.slot i sv e
    exact ⟨v, e1, q.ext hx (fun a o x n => ⟨h a o x, n⟩) fun _ _ _ _ o e => h _ o e⟩
  · obtain ⟨ho, e1, q⟩ := R.heap a o e
    exact ⟨ho, h _ _ e1, q.ext hx⟩
  · obtain ⟨n, o, e⟩ := R.zd a z
    exact ⟨n, o, h _ _ e⟩
/-- a new address is reserved -/
theorem Rep.more (R : Rep ca K L Z σ H ρ G) {N : Addr → Prop} {H' : Hp} (h : ∀ a o, H a = some o → H' a = some o) (hn : ∀ a, N a → H a = none ∧ ∃ o, H' a = some o) : Rep ca K L (Or2 Z N) σ H' ρ G := by
  have hN : ∀ a o, H a = some o → ¬ N a := fun a o e n => by rw [(hn a n).1] at e; cases e
  have hx : Ext H (Or2 (fp σ ρ G) Z) H' (Or2 (fp σ ρ G) (Or2 Z N)) := fun a o e n => ⟨h a o e, fun q => q.elim (fun q => n (.inl q)) fun q => q.elim (fun q => n (.inr q)) (hN a o e)⟩
  refine ⟨R.len, fun i sv e => ?_, R.own, R.ownG, fun a o e => ?_, fun a z => ?_⟩
  · obtain ⟨v, e1, q⟩ := R.slot i sv e
    exact ⟨v, e1, q.ext hx (fun a o x n => ⟨h a o x, n⟩) fun _ _ _ _ o e => h _ o e⟩
  · obtain ⟨ho, e1, q⟩ := R.heap a o e
    exact ⟨ho, h _ _ e1, q.ext hx⟩
  · rcases z with z | z
    · obtain ⟨n, o, e⟩ := R.zd a z
      exact ⟨n, o, h _ _ e⟩
    · refine ⟨fun q => ?_, (hn a z).2⟩
      obtain ⟨o, e, _⟩ := R.mut q
      exact hN a o e z
/-- what a result looks like, in the layer -/
noncomputable def Vw (W : World) (K : PySem.W.Frag) (H : Hp) (ex : Addr → Prop) (u : U) (v : V) : Prop := match u with
  | .lst xs => ∃ a vs, v = .ref a ∧ SqL K H a vs ∧ RepUs K H ex xs vs
  | .dic ks ws => ∃ a kvs, v = .ref a ∧ Rd H a (.dK kvs) ∧ ks = kvs.map (fun p => kKey p.1) ∧ RepUs K H ex ws (kvs.map (·.2))
  | .dit ks ws => ∃ a o, v = .ref a ∧ Rd H a o ∧ RepC K H ex W a (.dit ks ws) o
  | u => RepU K H ex u v
theorem sqL_of {a : Addr} {vs : List V} (t : LsAt K H ex a vs) : SqL K H a vs := by
  rcases t with ⟨t, _⟩ | t
  · exact .inl t
  · exact .inr t
theorem vw_ofRd {W : World} {a : Addr} {o : HO} (hr : Rd H a o) (q : RepC K H ex W a u o) : Vw W K H ex u (.ref a) := by
  have q0 := q
  cases u <;> simp only [RepC] at q
  · obtain ⟨vs, e, q⟩ := q
    subst e
    exact ⟨a, vs, rfl, .inl hr, q⟩
  · obtain ⟨kvs, e, e2, q⟩ := q
    subst e
    exact ⟨a, kvs, rfl, hr, e2, q⟩
  · exact ⟨a, o, rfl, hr, q0⟩
theorem vw_ofC {W : World} {a : Addr} {o : HO} (hr : H a = some o) (q : RepC K H ex W a u o) : Vw W K H ex u (.ref a) := vw_ofRd (.inl hr) q
theorem vw_ofU {W : World} (h : ∀ a, u ≠ .ref a) (h2 : ∀ ks ws, u ≠ .dit ks ws) (q : RepU K H ex u v) : Vw W K H ex u v := by
  cases u <;> simp only [Vw] <;> first | exact q | skip
  · simp only [RepU] at q
    obtain ⟨a, vs, e, r, q⟩ := q
    exact ⟨a, vs, e, sqL_of r, q⟩
  · simp only [RepU] at q
    obtain ⟨a, kvs, e, _, r, e2, q⟩ := q
    exact ⟨a, kvs, e, r, e2, q⟩
  · exact absurd rfl (h2 _ _)
theorem vw_ok (R : Rep ca K L Z σ H ρ G) (q : Val ca.w K H (Or2 (fp σ ρ G) Z) σ r v) (e : vw r ρ G = some u) : Vw ca.w K H (Or2 (fp σ ρ G) Z) u v := by
  cases r with
  | u x =>
    cases x <;> simp only [vw] at e <;> try (first | (cases e; done) | (cases e; exact vw_ofU (fun _ h => nomatch h) (fun _ _ h => nomatch h) q))
    rename_i a
    cases hg : G a with
    | none => rw [hg] at e; cases e
    | some o =>
      rw [hg] at e
      cases o with
      | ins k fs => cases e
      | con c =>
        cases e
        obtain ⟨ho, e1, q1⟩ := R.heap a _ hg
        have e2 : v = .ref a := by simpa only [Val, RepU] using q
        rw [e2]
        exact vw_ofC e1 q1
  | tmp x =>
    cases e
    obtain ⟨p, o, e1, e2, q⟩ := q
    rw [e1]
    exact vw_ofC e2 q
  | lv i =>
    have q' : σ[i]? = some (some v) := q
    simp only [vw] at e
    cases hs : ρ[i]? with
    | none => rw [hs] at e; cases e
    | some os =>
      rw [hs] at e
      cases os with
      | none => cases e
      | some sv =>
        obtain ⟨w, e1, q1⟩ := R.slot i sv hs
        rw [q'] at e1
        cases e1
        cases sv with
        | u x => cases e
        | own x =>
          cases e
          obtain ⟨a, o, e2, e3, q2⟩ := q1
          rw [e2]
          exact vw_ofC e3 q2
        | fz t x =>
          cases e
          obtain ⟨e2, _, o, e3, q2⟩ := q1
          rw [e2]
          exact vw_ofRd e3 q2
        | exc k => cases e
  | exc k => cases e
end
end Mp
namespace Mp
open PySem PySem.Spec PyProof.Rows L2
/-- what stays the same through a proof -/
structure Cx0 where
  P : Pg
  ca : Cs
  cur : Option (Addr × Option Addr × Nat × List U)
  /-- the exceptions that may be raised -/
  xs : Nat → Bool
/-- an exception of the layer, as a small one -/
noncomputable def RepX (c : Cx0) (K : PySem.W.Frag) (H : Hp) (ex : Addr → Prop) (k : Nat) (as : List U) (cls : Value) (d : Option Addr) : Prop :=
  (cls = .ref (c.ca k) ∧ c.xs k = true) ∧ match as with
    | [] => d = none
    | [x] => ∃ dx v, d = some dx ∧ H dx = some (.xd [(c.P.xfs k, v)]) ∧ ¬ ex dx ∧ RepU K H ex x v
    | _ => False
/-- what is wanted of exceptions is taken by the context -/
noncomputable def Tk (c : Cx0) (X : Cx) (L Z : Addr → Prop) (H : Hp) (f : Addr → Prop) (Xm : Xc) : Prop :=
  c.ca.w = X.w ∧ Takes X (fun cls d σ' H' => ∃ k as ρ' G', RepX c X.K H' (Or2 (fp σ' ρ' G') Z) k as cls d ∧ Rep c.ca X.K L Z σ' H' ρ' G' ∧ Ext H f H' (fp σ' ρ' G') ∧ Xm k as ρ' G')
theorem Tk.go {c : Cx0} {X : Cx} {L Z Z' : Addr → Prop} {H H' : Hp} {f f' : Addr → Prop} {Xm : Xc} (t : Tk c X L Z H f Xm) (h : Ext H f H' f') (hz : ∀ a, Z a → Z' a) : Tk c X L Z' H' f' Xm :=
  ⟨t.1, Takes.imp t.2 fun cls d σ H2 ⟨k, as, ρ, G, h1, h2, h3, h4⟩ => ⟨k, as, ρ, G, by
    obtain ⟨e, q⟩ := h1
    refine ⟨e, ?_⟩
    match as, q with
    | [], q => exact q
    | [x], q =>
      obtain ⟨dx, v, e1, e2, nx, q⟩ := q
      exact ⟨dx, v, e1, e2, fun z => nx (z.elim .inl fun z => .inr (hz dx z)), RepU.ext (Ext.sub fun a z => z.elim .inl fun z => .inr (hz a z)) x q⟩, h2.less hz, h.trans h3, h4⟩⟩
section
variable (c : Cx0) (Γ : Cal) (X : Cx)
/-- the end of an expression -/
noncomputable def EndE (L Z : Addr → Prop) (σ : L2.St) (H : Hp) (f : Addr → Prop) (Qm : Kc) (Q : VK) : Prop :=
  ∀ r ρ' G' v H', Ext H f H' (fp σ ρ' G') → RepR c.ca X.K L Z σ H f H' ρ' G' r v → Qm r ρ' G' → Q v H'
noncomputable def tE (m : E) : TE := fun σ H Q => ∃ L Z ρ G Xm Qm, Rep c.ca X.K L Z σ H ρ G ∧ (∀ a, L a → Z a) ∧ wpE c.P Γ m ρ G Xm Qm ∧ Tk c X L Z H (fp σ ρ G) Xm ∧ EndE c X L Z σ H (fp σ ρ G) Qm Q
end
theorem PE.imp {X : Cx} {e : Expr} {t t' : TE} (h : PE X e t) (i : ∀ σ H Q, t' σ H Q → t σ H Q) : PE X e t' := ⟨fun pins s σ H Q I q => h.run pins s σ H Q I (i σ H Q q)⟩
theorem PS.imp {X : Cx} {st : Stmt} {t t' : TS} (h : PS X st t) (i : ∀ D σ H, t' D σ H → t D σ H) : PS X st t' := ⟨fun pins s σ H D I q => h.run pins s σ H D I (i D σ H q)⟩
theorem PSs.imp {X : Cx} {st : List Stmt} {t t' : TS} (h : PSs X st t) (i : ∀ D σ H, t' D σ H → t D σ H) : PSs X st t' := ⟨fun pins s σ H D I q => h.run pins s σ H D I (i D σ H q)⟩
theorem PT.imp {X : Cx} {e : Expr} {t t' : TT} (h : PT X e t) (i : ∀ σ H Q, t' σ H Q → t σ H Q) : PT X e t' := ⟨fun pins s σ H Q I q => h.run pins s σ H Q I (i σ H Q q)⟩
section
variable {c : Cx0} {Γ : Cal} {X : Cx} {L Z Z' N : Addr → Prop} {σ : L2.St} {H H' H1 H2 : Hp} {ρ ρ' ρ1 ρ2 : Rho} {G G' G1 G2 : Hh} {f : Addr → Prop} {r q : R} {v w x y : V} {u : U} {Qm : Kc} {Q : VK} {K : PySem.W.Frag} {ca : Cs}
theorem or2_false : Or2 Z (fun _ => False) = Z := by
  funext a
  exact propext ⟨fun q => q.elim id False.elim, .inl⟩
theorem or2_assoc {A B C : Addr → Prop} : Or2 (Or2 A B) C = Or2 A (Or2 B C) := by
  funext a
  exact propext ⟨fun q => q.elim (fun q => q.elim .inl fun q => .inr (.inl q)) fun q => .inr (.inr q), fun q => q.elim (fun q => .inl (.inl q)) fun q => q.elim (fun q => .inl (.inr q)) .inr⟩
theorem hd_u {u : U} {v : V} : Hd (.u u) v = fun _ => False := by
  funext a
  rfl
theorem hd_lv {i : Nat} {v : V} : Hd (.lv i) v = fun _ => False := by
  funext a
  rfl
theorem hd_exc {i : Addr} {v : V} : Hd (.exc i) v = fun _ => False := by
  funext a
  rfl
theorem Ext.withZ {f' : Addr → Prop} (h : Ext H f H' f') (hn : ∀ p, N p → (H p = none ∨ f p)) : Ext H (Or2 f Z) H' (Or2 f' (Or2 Z N)) := fun a o e n => by
  obtain ⟨h1, h2⟩ := h a o e fun q => n (.inl q)
  refine ⟨h1, fun q => q.elim h2 fun q => q.elim (fun q => n (.inr q)) fun q => ?_⟩
  rcases hn a q with k | k
  · rw [e] at k; cases k
  · exact n (.inl k)
/-- an answer stays through what comes behind it -/
theorem Val.step {ww : World} {f' : Addr → Prop} (q : Val ww K H (Or2 f Z) σ r v) (hz : ∀ a, Hd r v a → Z a) (hd : ∀ a, Z a → ¬ f a) (h : Ext H f H' f') (hn : ∀ p, N p → (H p = none ∨ f p)) : Val ww K H' (Or2 f' (Or2 Z N)) σ r v := by
  have hx := h.withZ (Z := Z) hn
  cases r with
  | u x => exact RepU.ext hx x q
  | tmp x =>
    obtain ⟨p, o, e, e2, q⟩ := q
    exact ⟨p, o, e, (h p o e2 (hd p (hz p e))).1, q.ext hx⟩
  | lv i => exact q
  | exc k => exact q
theorem nHd (r : R) (v : V) : ∀ p, Hd r v p → ∃ u, r = .tmp u ∧ v = .ref p := fun p h => by
  cases r with
  | tmp u => exact ⟨u, rfl, h⟩
  | u x => exact h.elim
  | lv i => exact h.elim
  | exc k => exact h.elim
/-- the end with a value -/
theorem EndE.ofU (h : EndE c X L Z σ H f Qm Q) (R : Rep c.ca X.K L Z' σ H' ρ' G') (hz : ∀ a, Z a → Z' a) (hx : Ext H f H' (fp σ ρ' G')) (q : RepU X.K H' (Or2 (fp σ ρ' G') Z') u v) (k : Qm (.u u) ρ' G') : Q v H' := by
  refine h (.u u) ρ' G' v H' hx ⟨?_, ?_, fun p e => e.elim⟩ k
  · rw [hd_u, or2_false]; exact R.less hz
  · rw [hd_u, or2_false]
    exact RepU.ext (Ext.sub fun a q => q.elim .inl fun q => .inr (hz a q)) u q
/-- .. with a new list or dict -/
theorem EndE.new {p : Addr} {o : HO} (h : EndE c X L Z σ H f Qm Q) (R : Rep c.ca X.K L Z' σ H' ρ' G') (hz : ∀ a, Z a → Z' a) (hx : Ext H f H' (fp σ ρ' G')) (hp : H' p = none) (q : RepC X.K H' (Or2 (fp σ ρ' G') Z') c.ca.w p u o) (k : Qm (.tmp u) ρ' G') : Q (.ref p) (upd H' p o) := by
  have hk : ∀ a w, H' a = some w → upd H' p o a = some w := fun a w e => by
    rw [upd_ne (ne_of_none e hp)]; exact e
  have R2 : Rep c.ca X.K L (Or2 Z' (One p)) σ (upd H' p o) ρ' G' := R.more hk fun a e => by
    have e' : a = p := e
    subst e'
    exact ⟨hp, o, upd_same⟩
  have hHd : Hd (.tmp u) (.ref p) = One p := by
    funext a
    exact propext ⟨fun e => (V.ref.inj e).symm, fun e => by rw [show a = p from e]; rfl⟩
  have hZp : ¬ Z p := fun z => by
    obtain ⟨_, w, e⟩ := R.zd p (hz p z)
    rw [hp] at e; cases e
  have hfp : ¬ fp σ ρ' G' p := fun z => by
    obtain ⟨w, e, _⟩ := R.mut z
    rw [hp] at e; cases e
  refine h (.tmp u) ρ' G' (.ref p) _ (fun a w e n => ?_) ⟨?_, ?_, fun a e => ?_⟩ k
  · exact ⟨hk a w (hx a w e n).1, (hx a w e n).2⟩
  · rw [hHd]
    exact R2.less fun a q => q.elim (fun q => .inl (hz a q)) .inr
  · rw [hHd]
    refine ⟨p, o, rfl, upd_same, q.ext fun a w e n => ⟨hk a w e, fun z => z.elim (fun z => n (.inl z)) fun z => z.elim (fun z => n (.inr (hz a z))) fun z => ?_⟩⟩
    rw [show a = p from z, hp] at e; cases e
  · have e' : a = p := (V.ref.inj e).symm
    subst e'
    refine ⟨?_, hZp⟩
    cases e1 : H a with
    | none => exact .inl rfl
    | some w =>
      by_cases ff : f a
      · exact .inr ff
      · have := (hx a w e1 ff).1
        rw [hp] at this; cases this
/-- two expressions in a row -/
theorem two {a b : E} {R : R → R → Rho → Hh → Prop} {Xm : Xc} {S : V → V → Hp → Prop} (Rp : Rep c.ca X.K L Z σ H ρ G) (hL : ∀ a, L a → Z a) (hw : wpE c.P Γ a ρ G Xm fun ra ρ1 G1 => wpE c.P Γ b ρ1 G1 Xm fun rb ρ2 G2 => R ra rb ρ2 G2) (tk : Tk c X L Z H (fp σ ρ G) Xm)
    (h : ∀ ra rb ρ2 G2 x y H2 Z', (∀ a, Z a → Z' a) → (∀ a, Hd ra x a → Z' a) → (∀ a, Hd rb y a → Z' a) → Ext H (fp σ ρ G) H2 (fp σ ρ2 G2) → Rep c.ca X.K L Z' σ H2 ρ2 G2 → Val c.ca.w X.K H2 (Or2 (fp σ ρ2 G2) Z') σ ra x → Val c.ca.w X.K H2 (Or2 (fp σ ρ2 G2) Z') σ rb y → R ra rb ρ2 G2 → S x y H2) :
    tE c Γ X a σ H fun x H1 => tE c Γ X b σ H1 fun y H2 => S x y H2 := by
  refine ⟨L, Z, ρ, G, Xm, _, Rp, hL, hw, tk, fun ra ρ1 G1 x H1 e1 R1 w1 => ?_⟩
  refine ⟨L, Or2 Z (Hd ra x), ρ1, G1, Xm, _, R1.rep, fun a z => .inl (hL a z), w1, tk.go e1 fun a => .inl, fun rb ρ2 G2 y H2 e2 R2 w2 => ?_⟩
  refine h ra rb ρ2 G2 x y H2 (Or2 (Or2 Z (Hd ra x)) (Hd rb y)) (fun a z => .inl (.inl z)) (fun a z => .inl (.inr z)) (fun a z => .inr z) (e1.trans e2) R2.rep ?_ R2.val w2
  exact R1.val.step (fun a z => .inr z) (fun a z => (R1.rep.zd a z).1) e2 fun p z => (R2.new p z).1
theorem vwK_out {K : U → Prop} (h : vwK r ρ G K) : ∃ u, vw r ρ G = some u ∧ K u := by
  unfold vwK at h
  cases e : vw r ρ G with
  | none => rw [e] at h; exact h.elim
  | some u => rw [e] at h; exact ⟨u, rfl, h⟩
theorem optK_out {α : Type} {o : Option α} {K : α → Prop} (h : optK o K) : ∃ u, o = some u ∧ K u := by
  cases o with
  | none => exact h.elim
  | some u => exact ⟨u, rfl, h⟩
theorem e_lit {e : Expr} {k : V} (h : PE X e (tC k)) {m : E} (hm : ∀ ρ G Xm Qm, wpE c.P Γ m ρ G Xm Qm → Qm (.u u) ρ G) (hr : ∀ H ex, RepU X.K H ex u k) : PE X e (tE c Γ X m) :=
  PE.imp h fun σ H Q ⟨L, Z, ρ, G, Xm, Qm, R, hL, w, tk, en⟩ => en.ofU R (fun _ z => z) (Ext.refl _ _) (hr _ _) (hm ρ G Xm Qm w)
theorem e_int {i : Int} {j : Nat} {pos : Pos} : PE X (.Constant (.int i) j pos) (tE c Γ X (.int i)) := e_lit pe_int (u := .int i) (fun _ _ _ _ w => by simpa only [wpE] using w) fun _ _ => by simp only [RepU]
theorem e_bl {i : Bool} {j : Nat} {pos : Pos} : PE X (.Constant (.bool i) j pos) (tE c Γ X (.bl i)) := e_lit pe_bl (u := .bl i) (fun _ _ _ _ w => by simpa only [wpE] using w) fun _ _ => by simp only [RepU]
theorem e_non {j : Nat} {pos : Pos} : PE X (.Constant .none j pos) (tE c Γ X .non) := e_lit pe_non (u := .non) (fun _ _ _ _ w => by simpa only [wpE] using w) fun _ _ => by simp only [RepU]
theorem e_str {s : List Nat} {j : Nat} {pos : Pos} (hl : GoodS s) : PE X (.Constant (.str ⟨s.toArray⟩) j pos) (tE c Γ X (.str s)) := e_lit pe_str (u := .str s) (fun _ _ _ _ w => by simpa only [wpE] using w) fun _ _ => by simp only [RepU]; exact ⟨trivial, hl⟩
theorem e_loc {i : Nat} {x : Str} {pos : Pos} (h : PE X (.Name x pos) (tVar i)) : PE X (.Name x pos) (tE c Γ X (.loc i)) := by
  refine PE.imp h fun σ H Q ⟨L, Z, ρ, G, Xm, Qm, R, hL, w, tk, en⟩ => ?_
  simp only [wpE] at w
  cases hs : ρ[i]? with
  | none => rw [hs] at w; exact w.elim
  | some os =>
    rw [hs] at w
    cases os with
    | none => exact w.elim
    | some sv =>
      obtain ⟨v, e1, q⟩ := R.slot i sv hs
      refine ⟨v, e1, ?_⟩
      cases sv with
      | u y => exact en.ofU R (fun _ z => z) (Ext.refl _ _) q w
      | exc k =>
        refine en (.exc k) ρ G v H (Ext.refl _ _) ⟨?_, q.1, fun p z => z.elim⟩ w
        rw [hd_exc, or2_false]; exact R
      | own y =>
        refine en (.lv i) ρ G v H (Ext.refl _ _) ⟨?_, e1, fun p z => z.elim⟩ w
        rw [hd_lv, or2_false]; exact R
      | fz t y =>
        refine en (.lv i) ρ G v H (Ext.refl _ _) ⟨?_, e1, fun p z => z.elim⟩ w
        rw [hd_lv, or2_false]; exact R
theorem tru_of {ww : World} {k : Bool} {ex : Addr → Prop} (h : Vw ww X.K H ex u v) (e : truth u = some k) : TruV X.K v H k := by
  cases u with
  | non =>
    cases e
    have h : v = .non := by simpa only [Vw, RepU] using h
    rw [h]; rfl
  | bl b =>
    cases e
    have h : v = .bl k := by simpa only [Vw, RepU] using h
    rw [h]; rfl
  | int i =>
    cases e
    have h : v = .int i := by simpa only [Vw, RepU] using h
    rw [h]
    show decide (i ≠ 0) = (i != 0)
    by_cases z : i = 0 <;> simp [z]
  | str s =>
    cases e
    have h : v = .str ⟨s.toArray⟩ ∧ GoodS s := by simpa only [Vw, RepU] using h
    rw [h.1]
    refine ⟨h.2.1, ?_⟩
    show (!s.isEmpty) = ((s.length : Int) != 0)
    cases s with
    | nil => rfl
    | cons a r =>
      rw [List.length_cons]
      simp
      omega
  | tup xs =>
    cases e
    simp only [Vw, RepU] at h
    obtain ⟨a, vs, e, t, q⟩ := h
    rw [e]
    refine .inr (.inl ⟨vs, ?_, ?_⟩)
    · rcases t with ⟨t, _⟩ | t
      · exact .inl t
      · exact .inr t
    · have := q.length
      cases xs <;> cases vs <;> simp at this <;> rfl
  | lst xs =>
    cases e
    obtain ⟨a, vs, e, t, q⟩ := h
    rw [e]
    refine .inl ⟨vs, t, ?_⟩
    have := q.length
    cases xs <;> cases vs <;> simp at this <;> rfl
  | dic ks ws => cases e
  | dit ks ws => cases e
  | ref a => cases e
theorem tstK_out {K : Bool → Prop} (h : tstK r ρ G K) : ∃ u k, vw r ρ G = some u ∧ truth u = some k ∧ K k := by
  obtain ⟨u, e, h⟩ := vwK_out h
  obtain ⟨k, e2, h⟩ := optK_out h
  exact ⟨u, k, e, e2, h⟩
/-- a value's truth, from an answer -/
theorem tst_of {K : Bool → Prop} (R : Rep ca X.K L Z σ H ρ G) (q : Val ca.w X.K H (Or2 (fp σ ρ G) Z) σ r v) (h : tstK r ρ G K) : ∃ k, TruV X.K v H k ∧ K k := by
  obtain ⟨u, k, e, e2, h⟩ := tstK_out h
  exact ⟨k, tru_of (vw_ok R q e) e2, h⟩
/-- one expression, then its truth -/
theorem one {a : E} {R : R → Rho → Hh → Prop} {Xm : Xc} {S : V → Hp → Prop} (Rp : Rep c.ca X.K L Z σ H ρ G) (hL : ∀ a, L a → Z a) (hw : wpE c.P Γ a ρ G Xm R) (tk : Tk c X L Z H (fp σ ρ G) Xm)
    (h : ∀ ra ρ2 G2 x H2 Z', (∀ a, Z a → Z' a) → (∀ a, Hd ra x a → Z' a) → Ext H (fp σ ρ G) H2 (fp σ ρ2 G2) → Rep c.ca X.K L Z' σ H2 ρ2 G2 → Val c.ca.w X.K H2 (Or2 (fp σ ρ2 G2) Z') σ ra x → R ra ρ2 G2 → S x H2) :
    tE c Γ X a σ H S :=
  ⟨L, Z, ρ, G, Xm, _, Rp, hL, hw, tk, fun ra ρ1 G1 x H1 e1 R1 w1 => h ra ρ1 G1 x H1 (Or2 Z (Hd ra x)) (fun a => .inl) (fun a => .inr) e1 R1.rep R1.val w1⟩
theorem e_not {a : E} {e : Expr} {pos : Pos} (ha : PE X e (tE c Γ X a)) : PE X (.UnaryOp .Not e pos) (tE c Γ X (.not_ a)) := by
  refine PE.imp (pe_notT ha) fun σ H Q ⟨L, Z, ρ, G, Xm, Qm, R, hL, w, tk, en⟩ => ?_
  simp only [wpE] at w
  refine one R hL w tk fun ra ρ2 G2 x H2 Z' hz _ e2 R2 q w2 => ?_
  obtain ⟨k, e, w2⟩ := tst_of R2 q w2
  exact ⟨k, e, en.ofU R2 hz e2 (by simp only [RepU]) w2⟩
theorem e_neg {a : E} {e : Expr} {pos : Pos} (ha : PE X e (tE c Γ X a)) : PE X (.UnaryOp .USub e pos) (tE c Γ X (.neg a)) := by
  refine PE.imp (pe_un un_neg ha) fun σ H Q ⟨L, Z, ρ, G, Xm, Qm, R, hL, w, tk, en⟩ => ?_
  simp only [wpE] at w
  refine one R hL w tk fun ra ρ2 G2 x H2 Z' hz _ e2 R2 q w2 => ?_
  obtain ⟨u, e, w2⟩ := vwK_out w2
  have hv := vw_ok R2 q e
  cases u <;> try exact w2.elim
  simp only [Vw, RepU] at hv
  exact ⟨_, hv, en.ofU R2 hz e2 (by simp only [RepU]) w2⟩
/-- a truth's own value, known -/
theorem bvl_ok {ww : World} {k : Bool} {u : U} {x : V} {ex : Addr → Prop} (q : Val ww X.K H ex σ r x) (e : vw r ρ G = some u) (e2 : truth u = some k) : bvl r k = r := by
  cases r with
  | u y =>
    cases y <;> try rfl
    cases e
    cases e2
    rfl
  | tmp y => rfl
  | lv i => rfl
  | exc k => rfl
theorem EndE.imp {Qm' : Kc} {H2 : Hp} {f2 : Addr → Prop} {Z2 : Addr → Prop} (h : EndE c X L Z σ H f Qm Q) (hx : Ext H f H2 f2) (hz : ∀ a, Z a → Z2 a) (hq : ∀ r ρ G, Qm' r ρ G → Qm r ρ G) : EndE c X L Z2 σ H2 f2 Qm' Q := by
  intro r ρ' G' v H' e R q
  have hHd : ∀ p, Hd r v p → ¬ Z p := fun p z z2 => (R.new p z).2 (hz p z2)
  refine h r ρ' G' v H' (hx.trans e) ⟨R.rep.less fun a z => z.elim (fun z => .inl (hz a z)) .inr, ?_, fun p z => ⟨?_, hHd p z⟩⟩ (hq _ _ _ q)
  · have hv := R.val
    have hs : Ext H' (Or2 (fp σ ρ' G') (Or2 Z2 (Hd r v))) H' (Or2 (fp σ ρ' G') (Or2 Z (Hd r v))) := Ext.sub fun a z => z.elim .inl fun z => .inr (z.elim (fun z => .inl (hz a z)) .inr)
    cases r with
    | u x => exact RepU.ext hs x hv
    | tmp x =>
      obtain ⟨p, o, e, e2, q⟩ := hv
      exact ⟨p, o, e, e2, q.ext hs⟩
    | lv i => exact hv
    | exc k => exact hv
  · cases e1 : H p with
    | none => exact .inl rfl
    | some w =>
      by_cases ff : f p
      · exact .inr ff
      · have h2 := hx p w e1 ff
        rcases (R.new p z).1 with k | k
        · rw [h2.1] at k; cases k
        · exact absurd k h2.2
end
end Mp
namespace Mp
open PySem PySem.Spec PyProof.Rows L2
theorem sizeLine_def : sizeLine = 16777216 := sizeLine_eq
section
variable {X : Cx}
theorem lstR {pins : List (Addr × Obj)} {σ : L2.St} {H : Hp} {s : Shared} {l : Addr} {xs : List V} (I : Inv X pins σ H s) (h : SqL X.K H l xs) :
    xs.length ≤ sizeLine ∧ ∃ (its : List Value) (n : Nat) (sl : Array (Option Value)), Vals xs its ∧ xs.length = its.length ∧ s.heap.get? l = some { cls := .type "list", data := .seq its.toArray n, slots := sl } := by
  obtain ⟨its, r, ⟨⟨cls, dd, data, sl⟩, n, e, h1, h2, h3⟩, z⟩ := I.list h
  simp only at h1 h2 h3
  subst h1 h2 h3
  exact ⟨z, its, n, sl, r, r.length, e⟩
theorem list_mulW (l : Addr) (items : Array Value) (n : Nat) (sl : Array (Option Value)) (x : Int) (u : Tok) (hc0 : ¬(!Builtin.List.listFitsIndex x) = true) (hc1 : ¬items.size * x.toNat > (2 ^ 63 - 1) / 8) (hc2 : ¬Builtin.List.listTooLong (items.size * x.toNat) = true) :
    Meets (Builtin.«list.__mul__» ⟨[.ref l, .int x u], []⟩) (fun _ R s => s.heap.get? l = some { cls := .type "list", dict := none, data := .seq items n, slots := sl } ∧ R (.ok (.ret (Value.ref s.heap.objs.size))) { s with heap := s.heap.push { cls := Value.type "list", data := Data.seq (List.foldl (fun x1 x2 => x1 ++ x2) #[] (List.replicate (if items.isEmpty = true then 0 else x.toNat) items)) }, toks := s.toks }) :=
  .of_wp fun prog w A R s h => by
    obtain ⟨hp, g, d, tk, os⟩ := s; obtain ⟨hl, h⟩ := h
    have hsz := PySem.AutoListH.joined_fits hc2
    wp_walk using wpAny_loadPart' hl; refine wpAny_ite_false (decide_eq_false (Nat.not_lt.mpr hsz)) ?_; wp_walk using wpAny_loadPart' hl; exact ⟨_, rfl, h⟩
theorem int_rmul_listW (a : Int) (t : Tok) (l : Addr) (items : Array Value) (n : Nat) (sl : Array (Option Value)) :
    Meets (Builtin.«int.__rmul__» ⟨[.int a t, .ref l], []⟩) (fun _ R s => s.heap.get? l = some { cls := .type "list", dict := none, data := .seq items n, slots := sl } ∧ R (.ok (.ret Value.notImplemented)) s) :=
  .of_wp fun prog w A R s h => by obtain ⟨hp, g, d, tk, os⟩ := s; obtain ⟨hl, h⟩ := h; wp_walk using wpAny_loadPart' hl; exact ⟨_, rfl, h⟩
/-- list + list, of whatever is read -/
noncomputable def rCatR (K : PySem.W.Frag) : R2 := fun x y H Q => ∃ l b xs zs, x = .ref l ∧ y = .ref b ∧ SqL K H l xs ∧ SqL K H b zs ∧ xs.length + zs.length ≤ sizeLine ∧ ∀ p, H p = none → Q (.ref p) (upd H p (.lst (xs ++ zs)))
theorem op_catR : OpR X (binaryOp .Add) (rCatR X.K) := by
  intro pins s σ H x y v u Q I rx ry h
  obtain ⟨l, b, xs, zs, rfl, rfl, hH, hB, hz, q⟩ := h
  cases rx
  cases ry
  obtain ⟨z, its, n, sl, r, hl, e⟩ := lstR I hH
  obtain ⟨z2, its2, n2, sl2, r2, hl2, e2⟩ := lstR I hB
  refine concat_meets ⟨_, e, rfl⟩ ⟨_, e2, rfl⟩ noFill_list_add seq_list_add PySem.F.slot_list_add PySem.F.entry_list_add (PySem.F.args_list_add_2 _ _) (PyProof.Rows.list_addW l b its.toArray its2.toArray n n2 none none sl sl2 (by rw [List.size_toArray, List.size_toArray]; omega)) ⟨e, e2, ?_⟩
  have ea : its.toArray ++ its2.toArray = (its ++ its2).toArray := by simp
  rw [ea]
  exact ⟨.ref _, _, I.lnew (t' := s.toks) (r.append r2) (by rw [List.length_append]; omega), rfl, q _ I.fresh⟩
noncomputable def rAddS : R2 := fun x y H Q => ∃ i j, x = .str i ∧ y = .str j ∧ i.length + j.length ≤ sizeLine ∧ Q (.str (i ++ j)) H
noncomputable def rRepS : R2 := fun x y H Q => ∃ (s : List Nat) (k : Int), x = .str ⟨s.toArray⟩ ∧ y = .int k ∧ (k < 2 ^ 24 ∧ -(2 ^ 24) < k ∧ s.length * k.toNat ≤ sizeLine) ∧ Q (.str ⟨(rep s k).toArray⟩) H
theorem rep_len {α : Type} (xs : List α) (k : Int) : (rep xs k).length = xs.length * k.toNat := by
  unfold rep
  rw [PyProof.Rows.lm_len_rep_flat, Nat.mul_comm]
theorem foldl_app (s : List Nat) : ∀ (n : Nat) (acc : List Nat), (List.replicate n s.toArray).foldl (· ++ ·) acc.toArray = (acc ++ (List.replicate n s).flatten).toArray
  | 0, acc => by simp
  | n + 1, acc => by
    rw [List.replicate_succ, List.foldl_cons, List.replicate_succ, List.flatten_cons]
    have e : acc.toArray ++ s.toArray = (acc ++ s).toArray := by simp
    rw [e, foldl_app s n (acc ++ s), List.append_assoc]
theorem op_repS : OpR X (binaryOp .Mult) rRepS := by
  intro pins st σ H x y v u Q I rx ry h
  obtain ⟨s, k, rfl, rfl, ⟨h1, h2, h3⟩, q⟩ := h
  obtain ⟨t, rfl⟩ := rx
  obtain ⟨t2, rfl⟩ := ry
  have hs := sizeLine_def
  refine PySem.P.mul_str ?_ ?_ ?_ ?_
  · rw [decide_eq_false (by omega), decide_eq_false (by omega)]; rfl
  · intro hk hn hc
    have hl : (⟨s.toArray⟩ : Str).length = s.length := rfl
    rw [hl] at hc
    have hkn : k = (k.toNat : Int) := by omega
    have h3' : s.length * k.toNat ≤ 16777216 := by rw [← hs]; exact h3
    have h4 : ((s.length * k.toNat : Nat) : Int) = (s.length : Int) * k := by rw [Int.natCast_mul, ← hkn]
    have h5 : (s.length : Int) * k ≤ 16777216 := by omega
    have h6 : (s.length : Int) ≤ (s.length : Int) * k := by
      have := Int.mul_le_mul_of_nonneg_left (show (1 : Int) ≤ k by omega) (show (0 : Int) ≤ (s.length : Int) by omega)
      omega
    have h7 : (16777216 : Int) ≤ (2 ^ 63 - 1) / k := by
      rw [Int.le_ediv_iff_mul_le (by omega)]
      omega
    omega
  · intro hk hn
    unfold Builtin.Str.tooLong
    rw [show (⟨s.toArray⟩ : Str).length = s.length from rfl]
    exact decide_eq_false (by omega)
  · have fin : ∀ z : Str, z = ⟨(rep s k).toArray⟩ → ∀ t3 tk, EP X pins σ Q (.str z t3) { st with toks := tk } := fun z e t3 tk => ⟨.str z, H, I.tok _, ⟨t3, rfl⟩, by rw [e]; exact q⟩
    have hlen : (rep s k).length ≤ sizeLine := by
      rw [rep_len]; exact h3
    by_cases hk : k < 1
    · rw [if_pos hk]
      have e : (Str.empty : Str) = ⟨(rep s k).toArray⟩ := by
        unfold rep
        rw [show k.toNat = 0 by omega]
        rfl
      exact ⟨by decide, fin _ e _ _⟩
    · rw [if_neg hk]
      by_cases hn : (k == 1 || (⟨s.toArray⟩ : Str).length == 0) = true
      · rw [if_pos hn]
        have e : (⟨s.toArray⟩ : Str) = ⟨(rep s k).toArray⟩ := by
          congr 2
          unfold rep
          rcases Bool.or_eq_true_iff.mp hn with z | z
          · have : k = 1 := by simpa using z
            rw [this]
            simp
          · have : s = [] := by
              have z2 : s.length = 0 := by
                have z3 : (⟨s.toArray⟩ : Str).length = s.length := rfl
                rw [z3] at z
                exact eq_of_beq z
              exact List.eq_nil_of_length_eq_zero z2
            subst this
            simp
        have := fin _ e t st.toks
        exact this
      · rw [if_neg hn]
        have e : (⟨(List.replicate k.toNat (⟨s.toArray⟩ : Str).cps).foldl (· ++ ·) #[]⟩ : Str) = ⟨(rep s k).toArray⟩ := by
          congr 1
          have := foldl_app s k.toNat []
          simpa [rep] using this
        refine ⟨?_, fin _ e _ _⟩
        rw [e]
        show (rep s k).toArray.size ≤ sizeLine
        rw [List.size_toArray]
        exact hlen
noncomputable def rRepR (K : PySem.W.Frag) : R2 := fun x y H Q => ∃ l k xs, x = .ref l ∧ y = .int k ∧ SqL K H l xs ∧ -(2 ^ 63) ≤ k ∧ k < 2 ^ 63 ∧ xs.length * k.toNat ≤ sizeLine ∧
  ∀ p, H p = none → Q (.ref p) (upd H p (.lst (rep xs k)))
theorem op_repR : OpR X (binaryOp .Mult) (rRepR X.K) := by
  intro pins s σ H x y v u Q I rx ry h
  obtain ⟨l, k, xs, rfl, rfl, hH, h1, h2, hz, q⟩ := h
  cases rx
  obtain ⟨t, rfl⟩ := ry
  obtain ⟨z, its, n, sl, r, hl, e⟩ := lstR I hH
  have hlen : its.toArray.size * k.toNat ≤ sizeLine := by rw [List.size_toArray, ← hl]; exact hz
  have hcap : ¬ its.toArray.size * k.toNat > (2 ^ 63 - 1) / 8 := by
    have : (sizeLine : Nat) ≤ (2 ^ 63 - 1) / 8 := by decide
    omega
  have hfit : ¬ (!Builtin.List.listFitsIndex k) = true := by
    rw [fitsIndex_both h1 h2]
    exact Bool.false_ne_true
  have hlong : ¬ Builtin.List.listTooLong (its.toArray.size * k.toNat) = true := by
    rw [notLongL hlen]
    exact Bool.false_ne_true
  have hnew : List.foldl (fun x1 x2 => x1 ++ x2) #[] (List.replicate (if its.toArray.isEmpty = true then 0 else k.toNat) its.toArray) = (List.replicate k.toNat its).flatten.toArray := by
    have f0 : ∀ m : Nat, List.foldl (fun x1 x2 => x1 ++ x2) #[] (List.replicate m its.toArray) = (List.replicate m its).flatten.toArray := fun m => by
      have := foldl_rep its m []
      rw [List.nil_append] at this
      exact this
    rw [f0]
    cases its with
    | nil => simp
    | cons a r' => rw [if_neg (by simp)]
  refine wpAny_binaryOp_repeat_ref (T := "list") (U := "int") (by decide) ⟨_, e, rfl⟩ (fun s' => typeIs_int s' k t) noFill_list_mul F.fills_int_mul F.slot_int_rmul repeat_list F.slot_int_index.lookup
    (call_meets F.slot_int_rmul (typeIs_int s k t) F.entry_int_rmul (F.args_int_rmul_2 _ _) (int_rmul_listW k t l its.toArray n sl)
      ⟨e, rfl, ⟨_, e, rfl⟩, call_meets F.slot_list_mul ⟨_, e, rfl⟩ F.entry_list_mul (F.args_list_mul_2 _ _) (list_mulW l its.toArray n sl k t hfit hcap hlong) ⟨e, ?_⟩⟩)
  rw [hnew]
  exact ⟨.ref _, _, I.lnew (t' := s.toks) (r.rep k.toNat) (by rw [PyProof.Rows.lm_len_rep_flat, Nat.mul_comm]; exact hz), rfl, q _ I.fresh⟩
theorem RepUs.rep {K : PySem.W.Frag} {H : Hp} {ex : Addr → Prop} {us : List U} {vs : List V} (r : RepUs K H ex us vs) (k : Int) : RepUs K H ex (Mp.rep us k) (Mp.rep vs k) := by
  unfold Mp.rep
  generalize k.toNat = n
  induction n with
  | zero => simp [RepUs]
  | succ n ih =>
    rw [List.replicate_succ, List.replicate_succ, List.flatten_cons, List.flatten_cons]
    exact r.append ih
theorem op_mul2 : OpR X (binaryOp .Mult) (rI MulOk fun i j => .int (i * j)) := opI fun i j _ _ _ _ _ hc q => mul_int q (by
  rcases hc with (hc | hc) | hc
  · exact CMul.ok (.inl (by omega))
  · exact CMul.ok (.inr (by omega))
  · exact hc.ok)
theorem op_fdiv2 : OpR X (binaryOp .FloorDiv) (rI (fun _ j => DivOk j) fun i j => .int (i / j)) := by
  intro pins s σ H x y v u Q I rx ry h
  obtain ⟨i, j, e1, e2, hc, q⟩ := h
  exact op_fdivW pins s σ H x y v u Q I rx ry ⟨i, j, e1, e2, wide_div hc.1 hc.2 (by decide) (by decide), q⟩
noncomputable def rBin (K : PySem.W.Frag) : BOp → R2
  | .add => fun x y H Q => rI0 (fun i j => .int (i + j)) x y H Q ∨ rAddS x y H Q ∨ rCatA K x y H Q ∨ rCatR K x y H Q
  | .sub => rI0 fun i j => .int (i - j)
  | .mul => fun x y H Q => rI MulOk (fun i j => .int (i * j)) x y H Q ∨ rRepS x y H Q ∨ rRepR K x y H Q ∨ rRepT K x y H Q
  | .fdiv => rI (fun _ j => DivOk j) fun i j => .int (i / j)
  | .mod => rI (fun _ j => 0 < j) fun i j => .int (i % j)
  | .pow => rI CPow fun i j => .int (i ^ j.toNat)
theorem op_bin : ∀ op : BOp, OpR X (binaryOp op.op) (rBin X.K op)
  | .add => OpR.or op_add (OpR.or op_add_str (OpR.or op_catA op_catR))
  | .sub => op_sub
  | .mul => OpR.or op_mul2 (OpR.or op_repS (OpR.or op_repR op_repT))
  | .fdiv => op_fdiv2
  | .mod => op_mod
  | .pow => op_pow
end
section
variable {c : Cx0} {Γ : Cal} {X : Cx} {L Z Z' : Addr → Prop} {σ : L2.St} {H H2 : Hp} {ρ ρ2 : Rho} {G G2 : Hh} {f : Addr → Prop} {x y : V} {u w : U} {Qm : Kc} {Q : VK} {a b : E} {e1 e2 : Expr} {pos : Pos}
theorem str_app (s t : List Nat) : (⟨s.toArray⟩ : Str) ++ ⟨t.toArray⟩ = ⟨(s ++ t).toArray⟩ := by
  show (⟨s.toArray ++ t.toArray⟩ : Str) = _
  simp
theorem sqT_of {K : PySem.W.Frag} {ex : Addr → Prop} {p : Addr} {vs : List V} (t : TpAt K H ex p vs) : SqT K H p vs := by
  rcases t with ⟨t, _⟩ | t
  · exact .inl t
  · exact .inr t
theorem bin_of {ww : World} {op : BOp} (R : Rep c.ca X.K L Z' σ H2 ρ2 G2) (hz : ∀ a, Z a → Z' a) (hx : Ext H f H2 (fp σ ρ2 G2)) (en : EndE c X L Z σ H f Qm Q)
    (hv : Vw ww X.K H2 (Or2 (fp σ ρ2 G2) Z') u x) (hw : Vw ww X.K H2 (Or2 (fp σ ρ2 G2) Z') w y) (h : binU op u w fun r => Qm r ρ2 G2) : rBin X.K op x y H2 Q := by
  have fin : ∀ {z : U} {v : V}, RepU X.K H2 (Or2 (fp σ ρ2 G2) Z') z v → Qm (.u z) ρ2 G2 → Q v H2 := fun q k => en.ofU R hz hx q k
  cases op with
  | add =>
    cases u <;> try exact h.elim
    · cases w <;> try exact h.elim
      simp only [Vw, RepU] at hv hw
      exact .inl ⟨_, _, hv, hw, fin (by simp only [RepU]) h⟩
    · cases w <;> try exact h.elim
      simp only [Vw, RepU] at hv hw
      refine .inr (.inl ⟨_, _, hv.1, hw.1, h.1, ?_⟩)
      rw [str_app]
      exact fin (by simp only [RepU]; exact ⟨trivial, hv.2.app hw.2 h.1⟩) h.2
    · cases w <;> try exact h.elim
      rename_i xs ys
      simp only [Vw, RepU] at hv hw
      obtain ⟨p, vs, e1, t1, q1⟩ := hv
      obtain ⟨p2, ws, e2, t2, q2⟩ := hw
      have hl : vs.length + ws.length ≤ sizeLine := by
        rw [← q1.length, ← q2.length]; exact h.1
      have qa := q1.append q2
      refine .inr (.inr (.inl ⟨p, p2, vs, ws, e1, e2, sqT_of t1, sqT_of t2, hl, fun z => ?_, fun _ z => ?_, fun _ _ p3 h3 => ?_⟩))
      · refine fin (z := .tup (xs ++ ys)) ?_ h.2
        simp only [RepU]
        refine ⟨p2, ws, rfl, t2, ?_⟩
        rw [z, List.nil_append] at qa
        exact qa
      · refine fin (z := .tup (xs ++ ys)) ?_ h.2
        simp only [RepU]
        refine ⟨p, vs, rfl, t1, ?_⟩
        rw [z, List.append_nil] at qa
        exact qa
      · have hk : ∀ a o, H2 a = some o → upd H2 p3 (.tup (vs ++ ws)) a = some o := fun a o e => by
          rw [upd_ne (ne_of_none e h3)]; exact e
        have np : ¬ Or2 (fp σ ρ2 G2) Z' p3 := fun z => by
          rcases z with z | z
          · obtain ⟨o, e, _⟩ := R.mut z
            rw [h3] at e; cases e
          · obtain ⟨_, o, e⟩ := R.zd _ z
            rw [h3] at e; cases e
        refine en.ofU (R.heapExt hk) hz (fun a o e n => ⟨hk a o (hx a o e n).1, (hx a o e n).2⟩) (u := .tup (xs ++ ys)) ?_ h.2
        simp only [RepU]
        exact ⟨p3, vs ++ ws, rfl, .inl ⟨.inl upd_same, np⟩, RepUs.ext (fun a o e n => ⟨hk a o e, n⟩) _ qa⟩
    · cases w <;> try exact h.elim
      rename_i xs ys
      obtain ⟨p, vs, e1, t1, q1⟩ := hv
      obtain ⟨p2, ws, e2, t2, q2⟩ := hw
      have hl : vs.length + ws.length ≤ sizeLine := by
        rw [← q1.length, ← q2.length]; exact h.1
      refine .inr (.inr (.inr ⟨p, p2, vs, ws, e1, e2, t1, t2, hl, fun p3 h3 => ?_⟩))
      exact en.new R hz hx h3 (u := .lst (xs ++ ys)) ⟨_, rfl, q1.append q2⟩ h.2
  | sub =>
    cases u <;> try exact h.elim
    cases w <;> try exact h.elim
    simp only [Vw, RepU] at hv hw
    exact ⟨_, _, hv, hw, fin (by simp only [RepU]) h⟩
  | mul =>
    cases u <;> try exact h.elim
    · cases w <;> try exact h.elim
      simp only [Vw, RepU] at hv hw
      exact .inl ⟨_, _, hv, hw, h.1, fin (by simp only [RepU]) h.2⟩
    · cases w <;> try exact h.elim
      rename_i s k
      simp only [Vw, RepU] at hv hw
      refine .inr (.inl ⟨s, k, hv.1, hw, h.1, fin (z := .str (rep s k)) ?_ h.2⟩)
      simp only [RepU]
      refine ⟨trivial, ?_, fun c hc => hv.2.2 c ?_⟩
      · rw [rep_len]; exact h.1.2.2
      · unfold rep at hc
        obtain ⟨l, hl, hc⟩ := List.mem_flatten.mp hc
        rw [(List.mem_replicate.mp hl).2] at hc
        exact hc
    · cases w <;> try exact h.elim
      rename_i xs k
      simp only [Vw, RepU] at hv hw
      obtain ⟨p, vs, e1, t1, q1⟩ := hv
      obtain ⟨h1, h2⟩ := h
      have hl := q1.length
      refine .inr (.inr (.inr ⟨p, k, vs, e1, hw, sqT_of t1, fun z => h1.1 (by rw [hl, z]; rfl), h1.2.1, h1.2.2.1, by rw [← hl]; exact h1.2.2.2, fun p3 h3 => ?_⟩))
      have hk : ∀ a o, H2 a = some o → upd H2 p3 (.tup (rep vs k)) a = some o := fun a o e => by
        rw [upd_ne (ne_of_none e h3)]; exact e
      have np : ¬ Or2 (fp σ ρ2 G2) Z' p3 := fun z => by
        rcases z with z | z
        · obtain ⟨o, e, _⟩ := R.mut z
          rw [h3] at e; cases e
        · obtain ⟨_, o, e⟩ := R.zd _ z
          rw [h3] at e; cases e
      refine en.ofU (R.heapExt hk) hz (fun a o e n => ⟨hk a o (hx a o e n).1, (hx a o e n).2⟩) (u := .tup (rep xs k)) ?_ h2
      simp only [RepU]
      exact ⟨p3, rep vs k, rfl, .inl ⟨.inl upd_same, np⟩, RepUs.ext (fun a o e n => ⟨hk a o e, n⟩) _ (q1.rep k)⟩
    · cases w <;> try exact h.elim
      rename_i xs k
      obtain ⟨p, vs, e1, t1, q1⟩ := hv
      simp only [Vw, RepU] at hw
      obtain ⟨h1, h2⟩ := h
      have hl : vs.length * k.toNat ≤ sizeLine := by
        rw [← q1.length]; exact h1.2.2
      refine .inr (.inr (.inl ⟨p, k, vs, e1, hw, t1, by omega, by omega, hl, fun p3 h3 => ?_⟩))
      exact en.new R hz hx h3 (u := .lst (rep xs k)) ⟨_, rfl, q1.rep k⟩ h2
  | fdiv =>
    cases u <;> try exact h.elim
    cases w <;> try exact h.elim
    simp only [Vw, RepU] at hv hw
    exact ⟨_, _, hv, hw, h.1, fin (by simp only [RepU]) h.2⟩
  | mod =>
    cases u <;> try exact h.elim
    cases w <;> try exact h.elim
    simp only [Vw, RepU] at hv hw
    exact ⟨_, _, hv, hw, h.1, fin (by simp only [RepU]) h.2⟩
  | pow =>
    cases u <;> try exact h.elim
    cases w <;> try exact h.elim
    simp only [Vw, RepU] at hv hw
    exact ⟨_, _, hv, hw, h.1, fin (by simp only [RepU]) h.2⟩
theorem e_bin {op : BOp} (ha : PE X e1 (tE c Γ X a)) (hb : PE X e2 (tE c Γ X b)) : PE X (.BinOp e1 op.op e2 pos) (tE c Γ X (.bin op a b)) := by
  refine PE.imp (pe_op (op_bin op) ha hb) fun σ H Q ⟨L, Z, ρ, G, Xm, Qm, R, hL, w, tk, en⟩ => ?_
  simp only [wpE] at w
  refine two R hL w tk fun ra rb ρ2 G2 x y H2 Z' hz ha hb hx R2 qa qb w2 => ?_
  obtain ⟨u, eu, w2⟩ := vwK_out w2
  obtain ⟨z, ez, w2⟩ := vwK_out w2
  exact bin_of R2 hz hx en (vw_ok R2 qa eu) (vw_ok R2 qb ez) w2
end
end Mp
namespace Mp
open PySem PySem.Spec PyProof.Rows L2
mutual
noncomputable def pd : U → PyData
  | .non => .none
  | .bl b => .bool b
  | .int i => .int i
  | .str s => .str ⟨s.toArray⟩
  | .tup xs => .tuple (pds xs)
  | .lst xs => .list (pds xs)
  | .dic _ _ => .none
  | .dit _ _ => .none
  | .ref _ => .none
noncomputable def pds : List U → List PyData
  | [] => []
  | x :: xs => pd x :: pds xs
end
mutual
theorem ok_shape {K : PySem.W.Frag} {H : Hp} {ex : Addr → Prop} : ∀ (u : U) {n : Nat} {v : V}, okU n u = true → RepU K H ex u v → (pd u).canLay0 = true ∧ (pd u).depth ≤ n
  | .non, n, v, _, _ => ⟨by simp only [pd, PyData.canLay0], by simp only [pd, PyData.depth]; omega⟩
  | .bl _, n, v, _, _ => ⟨by simp only [pd, PyData.canLay0], by simp only [pd, PyData.depth]; omega⟩
  | .int _, n, v, _, _ => ⟨by simp only [pd, PyData.canLay0], by simp only [pd, PyData.depth]; omega⟩
  | .str s, n, v, _, r => by
    simp only [RepU] at r
    refine ⟨?_, by simp only [pd, PyData.depth]; omega⟩
    simp only [pd, PyData.canLay0]
    show (Array.all s.toArray (· < 0x110000)) = true
    simp
    exact fun x hx => r.2.2 x hx
  | .tup xs, 0, v, h, _ => by simp [okU] at h
  | .tup xs, n + 1, v, h, r => by
    simp only [okU] at h
    simp only [RepU] at r
    obtain ⟨a, vs, _, _, q⟩ := r
    obtain ⟨h1, h2⟩ := ok_shapes xs h q
    simp only [pd, PyData.canLay0, PyData.depth]
    exact ⟨h1, by omega⟩
  | .lst xs, 0, v, h, _ => by simp [okU] at h
  | .lst xs, n + 1, v, h, r => by
    simp only [okU] at h
    simp only [RepU] at r
    obtain ⟨a, vs, _, _, q⟩ := r
    obtain ⟨h1, h2⟩ := ok_shapes xs h q
    simp only [pd, PyData.canLay0, PyData.depth]
    exact ⟨h1, by omega⟩
  | .dic _ _, n, v, h, _ => by cases n <;> simp [okU] at h
  | .dit _ _, n, v, h, _ => by cases n <;> simp [okU] at h
  | .ref _, n, v, h, _ => by cases n <;> simp [okU] at h
theorem ok_shapes {K : PySem.W.Frag} {H : Hp} {ex : Addr → Prop} : ∀ (us : List U) {n : Nat} {vs : List V}, okUs n us = true → RepUs K H ex us vs → PyData.canLayAll0 (pds us) = true ∧ PyData.depthAll (pds us) ≤ n
  | [], n, vs, _, _ => ⟨by simp only [pds, PyData.canLayAll0], by simp only [pds, PyData.depthAll]; omega⟩
  | u :: us, n, vs, h, r => by
    simp only [okUs, Bool.and_eq_true] at h
    simp only [RepUs] at r
    obtain ⟨v, q, _, r1, r2⟩ := r
    obtain ⟨a1, a2⟩ := ok_shape u h.1 r1
    obtain ⟨b1, b2⟩ := ok_shapes us h.2 r2
    simp only [pds, PyData.canLayAll0, PyData.depthAll, a1, b1, Bool.and_self]
    exact ⟨trivial, by omega⟩
end
theorem strEq (s t : List Nat) : ((⟨s.toArray⟩ : Str) == ⟨t.toArray⟩) = (s == t) := by
  by_cases e : s = t
  · subst e; simp
  · have : ¬ (⟨s.toArray⟩ : Str) = ⟨t.toArray⟩ := fun z => e (by simpa using congrArg (fun (q : Str) => q.cps.toList) z)
    rw [beq_eq_false_iff_ne.mpr this, beq_eq_false_iff_ne.mpr e]
mutual
theorem eqv_eqU : ∀ (u w : U) {n m : Nat}, okU n u = true → okU m w = true → PyData.eqv (pd u) (pd w) = eqU u w
  | .non, w, n, m, _, h => by cases w <;> cases m <;> simp [okU] at h <;> simp [pd, PyData.eqv, eqU]
  | .bl _, w, n, m, _, h => by cases w <;> cases m <;> simp [okU] at h <;> simp [pd, PyData.eqv, eqU]
  | .int _, w, n, m, _, h => by cases w <;> cases m <;> simp [okU] at h <;> simp [pd, PyData.eqv, eqU]
  | .str s, w, n, m, _, h => by
    cases w <;> cases m <;> simp [okU] at h <;> simp only [pd, PyData.eqv, eqU]
    all_goals exact strEq _ _
  | .tup xs, w, 0, m, h, _ => by simp [okU] at h
  | .tup xs, w, n + 1, m, h, k => by
    simp only [okU] at h
    cases w <;> cases m <;> simp only [okU] at k <;> first | (simp at k; done) | simp only [pd, PyData.eqv, eqU]
    exact eqv_eqUs xs _ h k
  | .lst xs, w, 0, m, h, _ => by simp [okU] at h
  | .lst xs, w, n + 1, m, h, k => by
    simp only [okU] at h
    cases w <;> cases m <;> simp only [okU] at k <;> first | (simp at k; done) | simp only [pd, PyData.eqv, eqU]
    exact eqv_eqUs xs _ h k
  | .dic _ _, w, n, m, h, _ => by cases n <;> simp [okU] at h
  | .dit _ _, w, n, m, h, _ => by cases n <;> simp [okU] at h
  | .ref _, w, n, m, h, _ => by cases n <;> simp [okU] at h
theorem eqv_eqUs : ∀ (us ws : List U) {n m : Nat}, okUs n us = true → okUs m ws = true → PyData.eqvAll (pds us) (pds ws) = eqUs us ws
  | [], [], _, _, _, _ => by simp only [pds, PyData.eqvAll, eqUs]
  | [], _ :: _, _, _, _, _ => by simp only [pds, PyData.eqvAll, eqUs]
  | _ :: _, [], _, _, _, _ => by simp only [pds, PyData.eqvAll, eqUs]
  | u :: us, w :: ws, n, m, h, k => by
    simp only [okUs, Bool.and_eq_true] at h k
    simp only [pds, PyData.eqvAll, eqUs, eqv_eqU u w h.1 k.1, eqv_eqUs us ws h.2 k.2]
end
section
variable {X : Cx} {pins : List (Addr × Obj)} {σ : L2.St} {H : Hp} {s : Shared} {K : PySem.W.Frag} {ex : Addr → Prop}
mutual
theorem reads_of (I : Inv X pins σ H s) : ∀ (u : U) {n : Nat} {v : V} {x : Value}, okU n u = true → RepU X.K H ex u v → RelV v x → ∃ as, Reads s.heap x (pd u) as
  | .non, _, v, x, _, r, q => by
    simp only [RepU] at r
    subst r
    cases q
    exact ⟨_, .none⟩
  | .bl b, _, v, x, _, r, q => by
    simp only [RepU] at r
    subst r
    cases q
    exact ⟨_, .bool b⟩
  | .int i, _, v, x, _, r, q => by
    simp only [RepU] at r
    subst r
    obtain ⟨t, rfl⟩ := q
    exact ⟨_, .int i t⟩
  | .str z, _, v, x, _, r, q => by
    simp only [RepU] at r
    obtain ⟨rfl, _⟩ := r
    obtain ⟨t, rfl⟩ := q
    exact ⟨_, .str _ t⟩
  | .tup xs, 0, v, x, h, _, _ => by simp [okU] at h
  | .tup xs, n + 1, v, x, h, r, q => by
    simp only [okU] at h
    simp only [RepU] at r
    obtain ⟨a, vs, rfl, t, r⟩ := r
    cases q
    obtain ⟨its, rv, ht, _⟩ := I.tuple (sqT_of t)
    obtain ⟨as, ra⟩ := reads_all I xs h r rv
    obtain ⟨o, h1, h2, m, h3⟩ := ht
    exact ⟨as, .tuple h1 h2 h3 (by simpa using ra)⟩
  | .lst xs, 0, v, x, h, _, _ => by simp [okU] at h
  | .lst xs, n + 1, v, x, h, r, q => by
    simp only [okU] at h
    simp only [RepU] at r
    obtain ⟨a, vs, rfl, t, r⟩ := r
    cases q
    obtain ⟨_, its, m, sl, rv, _, e⟩ := lstR I (sqL_of t)
    obtain ⟨as, ra⟩ := reads_all I xs h r rv
    exact ⟨a :: as, .list e rfl rfl (by simpa using ra)⟩
  | .dic _ _, n, v, x, h, _, _ => by cases n <;> simp [okU] at h
  | .dit _ _, n, v, x, h, _, _ => by cases n <;> simp [okU] at h
  | .ref _, n, v, x, h, _, _ => by cases n <;> simp [okU] at h
theorem reads_all (I : Inv X pins σ H s) : ∀ (us : List U) {n : Nat} {vs : List V} {xs : List Value}, okUs n us = true → RepUs X.K H ex us vs → Vals vs xs → ∃ as, ReadsAll s.heap xs (pds us) as
  | [], _, vs, xs, _, r, q => by
    simp only [RepUs] at r
    subst r
    cases q
    exact ⟨_, .nil⟩
  | u :: us, n, vs, xs, h, r, q => by
    simp only [okUs, Bool.and_eq_true] at h
    simp only [RepUs] at r
    obtain ⟨v, t, rfl, r1, r2⟩ := r
    cases q with
    | cons q1 q2 =>
      obtain ⟨as, h1⟩ := reads_of I u h.1 r1 q1
      obtain ⟨bs, h2⟩ := reads_all I us h.2 r2 q2
      exact ⟨_, .cons h1 h2⟩
end
/-- the same of a view -/
theorem reads_vw {ww : World} (I : Inv X pins σ H s) {u : U} {n : Nat} {v : V} {x : Value} (h : okU n u = true) (r : Vw ww X.K H ex u v) (q : RelV v x) : (∃ as, Reads s.heap x (pd u) as) ∧ (pd u).canLay0 = true ∧ (pd u).depth ≤ n := by
  cases u with
  | lst xs =>
    cases n with
    | zero => simp [okU] at h
    | succ n =>
      simp only [okU] at h
      obtain ⟨a, vs, rfl, t, r⟩ := r
      cases q
      obtain ⟨_, its, m, sl, rv, _, e⟩ := lstR I t
      obtain ⟨as, ra⟩ := reads_all I xs h r rv
      obtain ⟨h1, h2⟩ := ok_shapes xs h r
      refine ⟨⟨a :: as, .list e rfl rfl (by simpa using ra)⟩, ?_⟩
      simp only [pd, PyData.canLay0, PyData.depth]
      exact ⟨h1, by omega⟩
  | dic _ _ => cases n <;> simp [okU] at h
  | dit _ _ => cases n <;> simp [okU] at h
  | ref _ => cases n <;> simp [okU] at h
  | _ => exact ⟨reads_of I _ h (show RepU X.K H ex _ v from r) q, ok_shape _ h (show RepU X.K H ex _ v from r)⟩
end
noncomputable def rEqU (K : PySem.W.Frag) (neg : Bool) : R2 := fun x y H Q => ∃ ww ex ex' u w, Vw ww K H ex u x ∧ Vw ww K H ex' w y ∧ okU deepU u = true ∧ okU deepU w = true ∧ Q (.bl (if neg then !eqU u w else eqU u w)) H
theorem op_eqU {X : Cx} (hu : X.A.units + 64 < cLine) : OpR X (compareOp .Eq) (rEqU X.K false) := by
  intro pins s σ H x y v u Q I rx ry h
  obtain ⟨ww, ex, ex', a, b, h1, h2, h3, h4, q⟩ := h
  obtain ⟨⟨as, r1⟩, c1, d1⟩ := reads_vw I h3 h1 rx
  obtain ⟨⟨bs, r2⟩, c2, d2⟩ := reads_vw I h4 h2 ry
  refine SeqAt.compareEq_reads r1 r2 c1 c2 ?_ ?_
  · have : deepU = 40 := rfl
    have := Nat.min_le_left (pd a).depth (pd b).depth
    omega
  · rw [eqv_eqU a b h3 h4]
    exact ⟨.bl _, H, I, rfl, q⟩
theorem op_neU {X : Cx} (hu : X.A.units + 64 < cLine) : OpR X (compareOp .NotEq) (rEqU X.K true) := by
  intro pins s σ H x y v u Q I rx ry h
  obtain ⟨ww, ex, ex', a, b, h1, h2, h3, h4, q⟩ := h
  obtain ⟨⟨as, r1⟩, c1, d1⟩ := reads_vw I h3 h1 rx
  obtain ⟨⟨bs, r2⟩, c2, d2⟩ := reads_vw I h4 h2 ry
  refine SeqAt.compareNe_reads r1 r2 c1 c2 ?_ ?_
  · have : deepU = 40 := rfl
    have := Nat.min_le_left (pd a).depth (pd b).depth
    omega
  · rw [eqv_eqU a b h3 h4]
    exact ⟨.bl _, H, I, rfl, q⟩
theorem any_pds {w : U} : ∀ (xs : List U) {n m : Nat}, okUs n xs = true → okU m w = true → ((pds xs).any fun y => PyData.eqv y (pd w)) = xs.any fun y => eqU y w
  | [], _, _, _, _ => rfl
  | x :: xs, n, m, h, k => by
    simp only [okUs, Bool.and_eq_true] at h
    simp only [pds, List.any_cons, any_pds xs h.2 k, eqv_eqU x w h.1 k]
noncomputable def rInU (K : PySem.W.Frag) (neg : Bool) : R2 := fun x y H Q => ∃ ww ex ex' u xs, Vw ww K H ex u x ∧ (Vw ww K H ex' (.lst xs) y ∨ Vw ww K H ex' (.tup xs) y) ∧ okU deepU u = true ∧ okUs deepU xs = true ∧ Q (.bl (if neg then !(xs.any fun y => eqU y u) else xs.any fun y => eqU y u)) H
theorem op_inU {X : Cx} (hu : X.A.units + 64 < cLine) : OpR X (compareOp .In) (rInU X.K false) := by
  intro pins s σ H x y v u Q I rx ry h
  obtain ⟨ww, ex, ex', a, xs, h1, h2, h3, h4, q⟩ := h
  obtain ⟨⟨as, r1⟩, c1, d1⟩ := reads_vw I h3 h1 rx
  have room : ∀ d, d ≤ deepU → X.A.units + 1 + min d (pd a).depth < cLine := fun d hd => by
    have : deepU = 40 := rfl
    have := Nat.min_le_left d (pd a).depth
    omega
  rcases h2 with h2 | h2
  · obtain ⟨⟨bs, r2⟩, c2, d2⟩ := reads_vw I (n := deepU + 1) (u := .lst xs) (by simpa only [okU] using h4) h2 ry
    simp only [pd, PyData.canLay0, PyData.depth] at r2 c2 d2
    refine SeqAt.in_list_reads r2 r1 c2 c1 (room _ (by omega)) ?_
    rw [any_pds xs h4 h3]
    exact ⟨.bl _, H, I, rfl, q⟩
  · obtain ⟨⟨bs, r2⟩, c2, d2⟩ := reads_vw I (n := deepU + 1) (u := .tup xs) (by simpa only [okU] using h4) h2 ry
    simp only [pd, PyData.canLay0, PyData.depth] at r2 c2 d2
    refine SeqAt.in_tuple_reads r2 r1 c2 c1 (room _ (by omega)) ?_
    rw [any_pds xs h4 h3]
    exact ⟨.bl _, H, I, rfl, q⟩
theorem op_ninU {X : Cx} (hu : X.A.units + 64 < cLine) : OpR X (compareOp .NotIn) (rInU X.K true) := by
  intro pins s σ H x y v u Q I rx ry h
  obtain ⟨ww, ex, ex', a, xs, h1, h2, h3, h4, q⟩ := h
  obtain ⟨⟨as, r1⟩, c1, d1⟩ := reads_vw I h3 h1 rx
  have room : ∀ d, d ≤ deepU → X.A.units + 1 + min d (pd a).depth < cLine := fun d hd => by
    have : deepU = 40 := rfl
    have := Nat.min_le_left d (pd a).depth
    omega
  rcases h2 with h2 | h2
  · obtain ⟨⟨bs, r2⟩, c2, d2⟩ := reads_vw I (n := deepU + 1) (u := .lst xs) (by simpa only [okU] using h4) h2 ry
    simp only [pd, PyData.canLay0, PyData.depth] at r2 c2 d2
    refine SeqAt.notIn_list_reads r2 r1 c2 c1 (room _ (by omega)) ?_
    rw [any_pds xs h4 h3]
    exact ⟨.bl _, H, I, rfl, q⟩
  · obtain ⟨⟨bs, r2⟩, c2, d2⟩ := reads_vw I (n := deepU + 1) (u := .tup xs) (by simpa only [okU] using h4) h2 ry
    simp only [pd, PyData.canLay0, PyData.depth] at r2 c2 d2
    refine SeqAt.notIn_tuple_reads r2 r1 c2 c1 (room _ (by omega)) ?_
    rw [any_pds xs h4 h3]
    exact ⟨.bl _, H, I, rfl, q⟩
section
variable {K : PySem.W.Frag} {H : Hp} {ex : Addr → Prop}
theorem key_out {y : U} {v : V} (h : key1 y = true) (q : RepU K H ex y v) : ∃ k : Key, y = kKey k ∧ v = kV k := by
  cases y <;> try (cases h; done)
  · rename_i i
    simp only [RepU] at q
    exact ⟨.inl i, rfl, q⟩
  · rename_i s
    simp only [RepU] at q
    exact ⟨.inr ⟨s.toArray⟩, by simp [kKey], q.1⟩
theorem kKey_eq (a b : Key) : eqU (kKey a) (kKey b) = decide (a = b) := by
  cases a with
  | inl i =>
    cases b with
    | inl j =>
      simp only [kKey, eqU]
      by_cases h : i = j <;> simp [h]
    | inr t => simp [kKey, eqU]
  | inr s =>
    cases b with
    | inl j => simp [kKey, eqU]
    | inr t =>
      simp only [kKey, eqU]
      obtain ⟨⟨s⟩⟩ := s
      obtain ⟨⟨t⟩⟩ := t
      by_cases h : s = t <;> simp [h]
theorem lookD_val (k : Key) : ∀ (kvs : List (Key × V)) {ws : List U}, RepUs K H ex ws (kvs.map (·.2)) →
    (∀ u, lookD (kvs.map fun p => kKey p.1) ws (kKey k) = some u → ∃ v, valV kvs k = some v ∧ RepU K H ex u v) ∧ (lookD (kvs.map fun p => kKey p.1) ws (kKey k) = none → valV kvs k = none)
  | [], ws, r => by
    simp only [List.map_nil]
    refine ⟨fun u h => ?_, fun _ => rfl⟩
    cases ws <;> simp [lookD] at h
  | p :: kvs, ws, r => by
    cases ws with
    | nil => simp [RepUs] at r
    | cons w ws =>
      simp only [List.map_cons, RepUs] at r
      obtain ⟨v, q, e, r1, r2⟩ := r
      cases e
      obtain ⟨ih1, ih2⟩ := lookD_val k kvs r2
      simp only [List.map_cons, lookD, kKey_eq]
      by_cases e : p.1 = k
      · simp only [e, decide_true, if_true]
        refine ⟨fun u h => ?_, fun h => by cases h⟩
        cases h
        exact ⟨_, valV_pos e, r1⟩
      · simp only [e, decide_false, Bool.false_eq_true, if_false]
        rw [valV_neg e]
        exact ⟨ih1, ih2⟩
theorem hasD_any (k : Key) : ∀ kvs : List (Key × V), hasD (kvs.map fun p => kKey p.1) (kKey k) = kvs.any fun kv => decide (kv.1 = k)
  | [] => rfl
  | p :: kvs => by simp only [List.map_cons, hasD, kKey_eq, List.any_cons, hasD_any k kvs]
theorem hasD_val (k : Key) (kvs : List (Key × V)) : hasD (kvs.map fun p => kKey p.1) (kKey k) = (valV kvs k).isSome := by rw [hasD_any, valV_any]
theorem updD_rep {u : U} {v : V} (k : Key) (hu : RepU K H ex u v) : ∀ (kvs : List (Key × V)) {ws : List U}, RepUs K H ex ws (kvs.map (·.2)) →
    RepUs K H ex (updD (kvs.map fun p => kKey p.1) ws (kKey k) u) ((kvs.map fun kv => if kv.1 = k then (kv.1, v) else kv).map (·.2))
  | [], ws, r => by
    simp only [List.map_nil]
    cases ws <;> simp [updD, RepUs]
  | p :: kvs, ws, r => by
    cases ws with
    | nil => simp [RepUs] at r
    | cons w ws =>
      simp only [List.map_cons, RepUs] at r
      obtain ⟨x, q, e, r1, r2⟩ := r
      cases e
      have ih := updD_rep k hu kvs r2
      simp only [List.map_cons, updD, kKey_eq, RepUs]
      refine ⟨_, _, rfl, ?_, ih⟩
      by_cases e : p.1 = k
      · simp only [e, decide_true, if_true]; exact hu
      · simp only [e, decide_false, Bool.false_eq_true, if_false]; exact r1
theorem putD_rep {u : U} {v : V} (k : Key) (hu : RepU K H ex u v) (kvs : List (Key × V)) {ws : List U} (r : RepUs K H ex ws (kvs.map (·.2))) :
    putDk (kvs.map fun p => kKey p.1) (kKey k) = (putK kvs k v).map (fun p => kKey p.1) ∧ RepUs K H ex (putDv (kvs.map fun p => kKey p.1) ws (kKey k) u) ((putK kvs k v).map (·.2)) := by
  unfold putDk putDv putK
  rw [hasD_any]
  by_cases h : (kvs.any fun kv => decide (kv.1 = k)) = true
  · simp only [h, if_true]
    refine ⟨?_, updD_rep k hu kvs r⟩
    rw [List.map_map]
    refine List.map_congr_left fun p _ => ?_
    by_cases e : p.1 = k <;> simp [e]
  · simp only [h, if_false, Bool.false_eq_true]
    refine ⟨by simp, ?_⟩
    rw [List.map_append]
    exact r.append (by simp only [List.map_cons, List.map_nil, RepUs]; exact ⟨v, [], rfl, hu, rfl⟩)
theorem delD_rep (k : Key) : ∀ (kvs : List (Key × V)) {ws : List U}, RepUs K H ex ws (kvs.map (·.2)) →
    delDk (kvs.map fun p => kKey p.1) (kKey k) = (dropK kvs k).map (fun p => kKey p.1) ∧ RepUs K H ex (delDv (kvs.map fun p => kKey p.1) ws (kKey k)) ((dropK kvs k).map (·.2))
  | [], ws, r => by
    simp only [List.map_nil]
    cases ws <;> simp [delDk, delDv, dropK, RepUs]
  | p :: kvs, ws, r => by
    cases ws with
    | nil => simp [RepUs] at r
    | cons w ws =>
      simp only [List.map_cons, RepUs] at r
      obtain ⟨x, q, e, r1, r2⟩ := r
      cases e
      obtain ⟨ih1, ih2⟩ := delD_rep k kvs r2
      unfold dropK at ih1 ih2 ⊢
      simp only [List.map_cons, delDk, delDv, kKey_eq]
      by_cases e : p.1 = k
      · simp only [e, decide_true, if_true]
        rw [List.filter_cons_of_neg (by simp [e])]
        exact ⟨ih1, ih2⟩
      · simp only [e, decide_false, Bool.false_eq_true, if_false]
        rw [List.filter_cons_of_pos (by simp [e])]
        simp only [List.map_cons, RepUs, ih1]
        exact ⟨trivial, _, _, rfl, r1, ih2⟩
end
/-- y in d, y not in d -/
noncomputable def rInD (neg : Bool) : R2 := fun x y H Q => ∃ a o, y = .ref a ∧ DGet H a x o ∧ Q (.bl (if neg then !o.isSome else o.isSome)) H
theorem op_inD {X : Cx} (hu : X.A.units + 64 < cLine) : OpR X (compareOp .In) (rInD false) := by
  intro pins s σ H x y v u Q I rx ry h
  obtain ⟨a, o, e, g, q⟩ := h
  subst e
  cases (show u = Value.ref a from ry)
  exact d_in (by omega) I g rx fun s' I' => ⟨.bl o.isSome, H, I', rfl, q⟩
theorem op_ninD {X : Cx} (hu : X.A.units + 64 < cLine) : OpR X (compareOp .NotIn) (rInD true) := by
  intro pins s σ H x y v u Q I rx ry h
  obtain ⟨a, o, e, g, q⟩ := h
  subst e
  cases (show u = Value.ref a from ry)
  exact d_notIn (by omega) I g rx fun s' I' => ⟨.bl (!o.isSome), H, I', rfl, q⟩
/-- d[y] -/
noncomputable def rIxDG : R2 := fun x y H Q => ∃ a v, x = .ref a ∧ DGet H a y (some v) ∧ Q v H
theorem ix_dictG {X : Cx} (hu : X.A.units + 64 < cLine) : IxR X rIxDG := by
  intro value slice pins s σ H x y v u Q I rx ry h hs
  obtain ⟨a, z, e, g, q⟩ := h
  subst e
  cases (show v = Value.ref a from rx)
  exact tail_any (dict_typeIs I g) PySem.F.slot_dict_getitem.lookup (d_getItem (by omega) I g ry fun w' s' I' r => ⟨z, H, I', r, q⟩) hs
theorem vw_dic {ww : World} {K : PySem.W.Frag} {H : Hp} {ex : Addr → Prop} {ks ws : List U} {x : V} {y : U} {v : V} (h : Vw ww K H ex (.dic ks ws) x) (hk : key1 y = true) (q : RepU K H ex y v) :
    ∃ a kvs k, x = .ref a ∧ Rd H a (.dK kvs) ∧ ks = kvs.map (fun p => kKey p.1) ∧ RepUs K H ex ws (kvs.map (·.2)) ∧ y = kKey k ∧ v = kV k ∧ DGet H a v (valV kvs k) := by
  obtain ⟨a, kvs, e, r, e2, q2⟩ := h
  obtain ⟨k, e3, e4⟩ := key_out hk q
  exact ⟨a, kvs, k, e, r, e2, q2, e3, e4, .inl ⟨kvs, k, r, e4, rfl⟩⟩
theorem key_vw {ww : World} {K : PySem.W.Frag} {H : Hp} {ex : Addr → Prop} {y : U} {v : V} (h : key1 y = true) (q : Vw ww K H ex y v) : RepU K H ex y v := by
  cases y <;> first | exact q | cases h
theorem lookD_mem {k w : U} : ∀ {ks ws : List U}, lookD ks ws k = some w → w ∈ ws
  | [], _, h => by simp [lookD] at h
  | _ :: _, [], h => by simp [lookD] at h
  | a :: ks, b :: ws, h => by
    unfold lookD at h
    split at h
    · cases h; simp
    · exact List.mem_cons_of_mem _ (lookD_mem h)
theorem okUs_mem {n : Nat} {u : U} : ∀ {us : List U}, okUs n us = true → u ∈ us → okU n u = true
  | [], _, h => by cases h
  | x :: xs, hk, h => by
    simp only [okUs, Bool.and_eq_true] at hk
    rcases List.mem_cons.mp h with e | h
    · rw [e]; exact hk.1
    · exact okUs_mem hk.2 h
section
variable {X : Cx} {pins : List (Addr × Obj)} {σ : L2.St} {H : Hp} {s : Shared} {ex ex' : Addr → Prop}
theorem subD_hits (I : Inv X pins σ H s) {A : Around} (hu : A.units + 42 < cLine) {vs2 : List (Key × Value)} {kvs2 : List (Key × V)} {ws2 : List U} (rel2 : KV kvs2 vs2) (r2 : RepUs X.K H ex' ws2 (kvs2.map (·.2))) (ok2 : okUs deepU ws2 = true) :
    ∀ (kvs1 : List (Key × V)) {vs1 : List (Key × Value)} {ws1 : List U}, KV kvs1 vs1 → RepUs X.K H ex ws1 (kvs1.map (·.2)) → okUs deepU ws1 = true →
      PySem.W.KeqHitsP X.prog X.w A s vs2 vs1 (subD (kvs2.map fun p => kKey p.1) ws2 (kvs1.map fun p => kKey p.1) ws1)
  | [], vs1, ws1, rel, r, ok => by
    cases rel
    cases ws1 with
    | nil => exact .nil
    | cons u us =>
      simp only [List.map_nil, RepUs] at r
      obtain ⟨_, _, e, _⟩ := r
      cases e
  | p :: kvs1, vs1, ws1, rel, r, ok => by
    cases ws1 with
    | nil => simp [RepUs] at r
    | cons u ws1 =>
      simp only [List.map_cons, RepUs] at r
      obtain ⟨v, q, e, r1, r3⟩ := r
      cases e
      simp only [okUs, Bool.and_eq_true] at ok
      cases rel with
      | @cons _ px _ vs1 hp rel =>
        obtain ⟨k, x⟩ := px
        obtain ⟨hk, hx⟩ := hp
        simp only at hk hx
        have ih := subD_hits I hu rel2 r2 ok2 kvs1 rel r3 ok.2
        obtain ⟨l1, l2⟩ := lookD_val p.1 kvs2 r2
        have hval := rel2.val p.1
        show PySem.W.KeqHitsP X.prog X.w A s vs2 ((k, x) :: vs1) ((match lookD (kvs2.map fun p => kKey p.1) ws2 (kKey p.1) with
          | some w => eqU u w
          | none => false) && _)
        cases el : lookD (kvs2.map fun p => kKey p.1) ws2 (kKey p.1) with
        | none =>
          rw [l2 el] at hval
          rw [Bool.false_and]
          refine .miss ?_
          rw [← hk]
          cases e3 : valueAt vs2 p.1 with
          | none => rfl
          | some z => rw [e3] at hval; exact hval.elim
        | some w =>
          obtain ⟨v2, h1, h2⟩ := l1 w el
          rw [h1] at hval
          cases e3 : valueAt vs2 p.1 with
          | none => rw [e3] at hval; exact hval.elim
          | some y =>
            rw [e3] at hval
            have hy : RelV v2 y := hval
            have okw := okUs_mem ok2 (lookD_mem el)
            obtain ⟨as, ra⟩ := reads_of I u ok.1 r1 hx
            obtain ⟨bs, rb⟩ := reads_of I w okw h2 hy
            obtain ⟨c1, d1⟩ := ok_shape u ok.1 r1
            obtain ⟨c2, d2⟩ := ok_shape w okw h2
            have hE := SeqAt.eqAt_reads (pd u) (pd w) A s x y as bs ra rb c1 c2 (by
              have : deepU = 40 := rfl
              have := Nat.min_le_left (pd u).depth (pd w).depth
              omega)
            rw [eqv_eqU u w ok.1 okw] at hE
            exact .hit (by rw [← hk]; exact e3) hE.eqP ih
end
noncomputable def rEqD (K : PySem.W.Frag) (neg : Bool) : R2 := fun x y H Q => ∃ ww ex ex' ks ws ks' ws', Vw ww K H ex (.dic ks ws) x ∧ Vw ww K H ex' (.dic ks' ws') y ∧ okUs deepU ws = true ∧ okUs deepU ws' = true ∧ Q (.bl (if neg then !eqD ks ws ks' ws' else eqD ks ws ks' ws')) H
theorem op_eqD {X : Cx} (hu : X.A.units + 64 < cLine) : OpR X (compareOp .Eq) (rEqD X.K false) := by
  intro pins s σ H x y v u Q I rx ry h
  obtain ⟨ww, ex, ex', ks, ws, ks', ws', h1, h2, h3, h4, q⟩ := h
  obtain ⟨a, kvs, rfl, ra, rfl, qa⟩ := h1
  obtain ⟨b, kvs', rfl, rb, rfl, qb⟩ := h2
  cases rx
  cases ry
  obtain ⟨z1, n1, vs1, rel1, da⟩ := dk_rd I.hok ra
  obtain ⟨z2, n2, vs2, rel2, db⟩ := dk_rd I.hok rb
  have hits := subD_hits I (A := X.A.in1) (by show X.A.units + 1 + 42 < cLine; omega) rel2 qb h4 kvs rel1 qa h3
  refine PySem.W.rcP_dicts n1 n2 da db (by omega) (fun _ => hits) _ _ ?_
  have e : (vs1.length == vs2.length && subD (kvs'.map fun p => kKey p.1) ws' (kvs.map fun p => kKey p.1) ws) = eqD (kvs.map fun p => kKey p.1) ws (kvs'.map fun p => kKey p.1) ws' := by
    unfold eqD
    rw [List.length_map, List.length_map, ← rel1.length, ← rel2.length]
    congr 1
  rw [e]
  exact ⟨.bl _, H, I, rfl, q⟩
section
variable {prog : Program} {w : World} {K : Type} [DecidableEq K] {knd : KeyKind prog w K} {A : Around} {s : Shared}
open PySem.W in
theorem rcP_dictsNe {a b : Addr} {ka kb : List (K × Value)} {r : Bool} (ha : (a == sysModules) = false) (hb : (b == sysModules) = false)
    (da : s.heap.DictOf knd a ka) (db : s.heap.DictOf knd b kb) (hu : A.units < cLine) (hits : ka.length = kb.length → KeqHitsP prog w A.in1 s kb ka r) (E Q : Value → Shared → Prop) (h : Q (.bool (!(ka.length == kb.length && r))) s) : wpAny (model prog w) A (richCompare .NotEq (.ref a) (.ref b)) Q E s := by
  refine wpAny_richCompare_same_room (op := .NotEq) da.typeIs db.typeIs PySem.F.slot_dict_ne (wpAny_call_entry PySem.F.slot_dict_ne da.typeIs PySem.F.entry_dict_ne ?_ (PySem.F.args_dict_ne_2 _ _)) hu
  show wpAny _ _ (Builtin.Dict.dictSlotArgs "__ne__" ⟨[.ref a, .ref b], []⟩ >>= _) _ _ s
  refine wpAny_bind ?_
  unfold Builtin.Dict.dictSlotArgs
  refine wpAny_bind (wpAny_notOrdered_dict da.typeIs ?_)
  show wpAny _ _ (pure (Value.ref a, Value.ref b)) _ _ s
  refine wpAny_pure ?_
  refine wpAny_bind (wpAny_isInstance (T := "dict") db.typeIs PySem.F.sub_dict_dict ?_)
  simp only [Bool.not_true, Bool.false_eq_true, if_false]
  refine wpAny_bind (wpAny_pure (wpAny_bind (wpAny_pure ?_)))
  refine wpAny_bind (samePairsP ha hb da db hits ?_)
  refine wpAny_pure ⟨_, rfl, ?_, ?_⟩
  · exact fun x => nomatch x
  · simpa using h
end
theorem op_neD {X : Cx} (hu : X.A.units + 64 < cLine) : OpR X (compareOp .NotEq) (rEqD X.K true) := by
  intro pins s σ H x y v u Q I rx ry h
  obtain ⟨ww, ex, ex', ks, ws, ks', ws', h1, h2, h3, h4, q⟩ := h
  obtain ⟨a, kvs, rfl, ra, rfl, qa⟩ := h1
  obtain ⟨b, kvs', rfl, rb, rfl, qb⟩ := h2
  cases rx
  cases ry
  obtain ⟨z1, n1, vs1, rel1, da⟩ := dk_rd I.hok ra
  obtain ⟨z2, n2, vs2, rel2, db⟩ := dk_rd I.hok rb
  have hits := subD_hits I (A := X.A.in1) (by show X.A.units + 1 + 42 < cLine; omega) rel2 qb h4 kvs rel1 qa h3
  refine rcP_dictsNe n1 n2 da db (by omega) (fun _ => hits) _ _ ?_
  have e : (vs1.length == vs2.length && subD (kvs'.map fun p => kKey p.1) ws' (kvs.map fun p => kKey p.1) ws) = eqD (kvs.map fun p => kKey p.1) ws (kvs'.map fun p => kKey p.1) ws' := by
    unfold eqD
    rw [List.length_map, List.length_map, ← rel1.length, ← rel2.length]
    congr 1
  rw [e]
  exact ⟨.bl _, H, I, rfl, q⟩
mutual
theorem kN_depth : ∀ (u : U) {n : Nat}, keyB n u = true → (kN u).depth ≤ n
  | .non, n, _ => by simp [kN, NestedKey.depth]
  | .bl _, n, _ => by simp [kN, NestedKey.depth]
  | .int _, n, _ => by simp [kN, NestedKey.depth]
  | .str _, n, _ => by simp [kN, NestedKey.depth]
  | .tup xs, 0, h => by simp [keyB] at h
  | .tup xs, n + 1, h => by
    simp only [keyB] at h
    simp only [kN, NestedKey.depth]
    have := kNs_depth xs h
    omega
  | .lst _, n, h => by cases n <;> simp [keyB] at h
  | .dic _ _, n, h => by cases n <;> simp [keyB] at h
  | .dit _ _, n, h => by cases n <;> simp [keyB] at h
  | .ref _, n, h => by cases n <;> simp [keyB] at h
theorem kNs_depth : ∀ (us : List U) {n : Nat}, keyBs n us = true → NestedKey.depthAll (kNs us) ≤ n
  | [], n, _ => by simp [kNs, NestedKey.depthAll]
  | u :: us, n, h => by
    simp only [keyBs, Bool.and_eq_true] at h
    have h1 := kN_depth u h.1
    have h2 := kNs_depth us h.2
    simp only [kNs, NestedKey.depthAll]
    omega
end
mutual
theorem kN_eq : ∀ (u w : U) {n m : Nat}, keyB n u = true → keyB m w = true → eqU u w = NestedKey.beq (kN u) (kN w)
  | u, w, n, m, h, k => by
    cases u with
    | tup xs =>
      cases n with
      | zero => simp [keyB] at h
      | succ n =>
        simp only [keyB] at h
        cases w with
        | tup ys =>
          cases m with
          | zero => simp [keyB] at k
          | succ m =>
            simp only [keyB] at k
            simp only [eqU, kN, NestedKey.beq]
            exact kNs_eq xs ys h k
        | lst _ => cases m <;> simp [keyB] at k
        | dic _ _ => cases m <;> simp [keyB] at k
        | dit _ _ => cases m <;> simp [keyB] at k
        | ref _ => cases m <;> simp [keyB] at k
        | bl b => simp [eqU, kN, NestedKey.beq]
        | _ => rfl
    | lst _ => cases n <;> simp [keyB] at h
    | dic _ _ => cases n <;> simp [keyB] at h
    | dit _ _ => cases n <;> simp [keyB] at h
    | ref _ => cases n <;> simp [keyB] at h
    | non =>
      cases w with
      | lst _ => cases m <;> simp [keyB] at k
      | dic _ _ => cases m <;> simp [keyB] at k
      | dit _ _ => cases m <;> simp [keyB] at k
      | ref _ => cases m <;> simp [keyB] at k
      | _ => simp [eqU, kN, NestedKey.beq]
    | bl b =>
      cases w with
      | lst _ => cases m <;> simp [keyB] at k
      | dic _ _ => cases m <;> simp [keyB] at k
      | dit _ _ => cases m <;> simp [keyB] at k
      | ref _ => cases m <;> simp [keyB] at k
      | bl b2 => cases b <;> cases b2 <;> rfl
      | int i => cases b <;> simp only [eqU, kN, NestedKey.beq] <;> rfl
      | _ => simp [eqU, kN, NestedKey.beq]
    | int i =>
      cases w with
      | lst _ => cases m <;> simp [keyB] at k
      | dic _ _ => cases m <;> simp [keyB] at k
      | dit _ _ => cases m <;> simp [keyB] at k
      | ref _ => cases m <;> simp [keyB] at k
      | bl b => cases b <;> simp only [eqU, kN, NestedKey.beq] <;> rfl
      | int j => simp only [eqU, kN, NestedKey.beq]; rfl
      | _ => simp [eqU, kN, NestedKey.beq]
    | str a =>
      cases w with
      | lst _ => cases m <;> simp [keyB] at k
      | dic _ _ => cases m <;> simp [keyB] at k
      | dit _ _ => cases m <;> simp [keyB] at k
      | ref _ => cases m <;> simp [keyB] at k
      | str b =>
        simp only [eqU, kN, NestedKey.beq]
        by_cases e : a = b
        · subst e; simp
        · have : ¬ (⟨a.toArray⟩ : Str) = ⟨b.toArray⟩ := fun z => by
            have := congrArg (fun s : Str => s.cps.toList) z
            exact e (by simpa using this)
          simp [e]
      | _ => simp [eqU, kN, NestedKey.beq]
theorem kNs_eq : ∀ (us ws : List U) {n m : Nat}, keyBs n us = true → keyBs m ws = true → eqUs us ws = NestedKey.beqAll (kNs us) (kNs ws)
  | [], [], _, _, _, _ => rfl
  | [], _ :: _, _, _, _, _ => rfl
  | _ :: _, [], _, _, _, _ => rfl
  | u :: us, w :: ws, n, m, h, k => by
    simp only [keyBs, Bool.and_eq_true] at h k
    simp only [eqUs, kNs, NestedKey.beqAll, kN_eq u w h.1 k.1, kNs_eq us ws h.2 k.2]
end
theorem keyT_B {u : U} (h : keyT u = true) : keyB 8 u = true := by
  cases u <;> first | exact h | cases h
theorem keyT_eq {u w : U} (h : keyT u = true) (k : keyT w = true) : eqU u w = decide (kN u = kN w) := by
  rw [NestedKey.decide_eq]
  exact kN_eq u w (keyT_B h) (keyT_B k)
section
variable {X : Cx} {pins : List (Addr × Obj)} {σ : L2.St} {H : Hp} {s : Shared} {ex : Addr → Prop}
mutual
theorem nest_of (I : Inv X pins σ H s) : ∀ (u : U) {n : Nat} {v : V} {x : Value}, keyB n u = true → RepU X.K H ex u v → RelV v x → NestedIs s.heap (kN u) x
  | .non, _, v, x, _, r, q => by
    simp only [RepU] at r
    subst r
    cases q
    exact .none
  | .bl b, _, v, x, _, r, q => by
    simp only [RepU] at r
    subst r
    cases q
    exact .bool (by cases b <;> rfl)
  | .int i, _, v, x, _, r, q => by
    simp only [RepU] at r
    subst r
    obtain ⟨t, rfl⟩ := q
    exact .int i t
  | .str z, _, v, x, _, r, q => by
    simp only [RepU] at r
    obtain ⟨rfl, _⟩ := r
    obtain ⟨t, rfl⟩ := q
    exact .text _ t
  | .tup xs, 0, v, x, h, _, _ => by simp [keyB] at h
  | .tup xs, n + 1, v, x, h, r, q => by
    simp only [keyB] at h
    simp only [RepU] at r
    obtain ⟨a, vs, rfl, t, r⟩ := r
    cases q
    obtain ⟨its, rv, ht, _⟩ := I.tuple (sqT_of t)
    have ra := nests_of I xs h r rv
    obtain ⟨o, h1, h2, m, h3⟩ := ht
    exact .tup h1 h2 h3 (by simpa using ra)
  | .lst _, n, v, x, h, _, _ => by cases n <;> simp [keyB] at h
  | .dic _ _, n, v, x, h, _, _ => by cases n <;> simp [keyB] at h
  | .dit _ _, n, v, x, h, _, _ => by cases n <;> simp [keyB] at h
  | .ref _, n, v, x, h, _, _ => by cases n <;> simp [keyB] at h
theorem nests_of (I : Inv X pins σ H s) : ∀ (us : List U) {n : Nat} {vs : List V} {xs : List Value}, keyBs n us = true → RepUs X.K H ex us vs → Vals vs xs → NestedAll s.heap (kNs us) xs
  | [], _, vs, xs, _, r, q => by
    simp only [RepUs] at r
    subst r
    cases q
    exact .nil
  | u :: us, n, vs, xs, h, r, q => by
    simp only [keyBs, Bool.and_eq_true] at h
    simp only [RepUs] at r
    obtain ⟨v, t, rfl, r1, r2⟩ := r
    cases q with
    | cons q1 q2 => exact .cons (nest_of I u h.1 r1 q1) (nests_of I us h.2 r2 q2)
end
/-- the value of a key -/
theorem key_is (I : Inv X pins σ H s) {u : U} {a : Addr} (h : keyT u = true) (r : RepU X.K H ex u (.ref a)) : (nestedKind X.prog X.w).is s.heap (kN u) a :=
  ⟨nest_of I u (keyT_B h) r rfl, kN_depth u (keyT_B h)⟩
theorem key_ref {u : U} {v : V} (h : keyT u = true) (r : RepU X.K H ex u v) : ∃ a, v = .ref a := by
  cases u <;> try (cases h; done)
  simp only [RepU] at r
  obtain ⟨a, _, e, _⟩ := r
  exact ⟨a, e⟩
/-- the dict as the library tells it -/
theorem dit_of (I : Inv X pins σ H s) {a : Addr} {xs : List (NestedKey × Addr × Value)} {ks : List U} (hr : Rd H a (.ext (DitR X.w a xs))) (nd : (xs.map (·.1)).Nodup) (kr : KeyR X.K H ex ks xs) : s.heap.DictOfH (nestedKind X.prog X.w) a xs := by
  obtain ⟨⟨o, es, ep, h1, h2, h3, h4⟩, _⟩ := (show ObjOk X.prog X.w H s.heap a (.ext (DitR X.w a xs)) from rd_of I.hok hr)
  refine ⟨o, es, ep, h1, h2, h3, h4, fun x hx => ?_, nd⟩
  obtain ⟨i, hi⟩ := List.mem_iff_getElem?.mp hx
  have key : ∀ {ks : List U} {xs : List (NestedKey × Addr × Value)} {i : Nat} {x : NestedKey × Addr × Value}, KeyR X.K H ex ks xs → xs[i]? = some x → (nestedKind X.prog X.w).is s.heap x.1 x.2.1 := by
    intro ks xs i x kr
    induction kr generalizing i with
    | nil => intro e; simp at e
    | cons h t ih =>
      intro e
      cases i with
      | zero =>
        simp at e
        subst e
        rw [h.2.1]
        exact key_is I h.1 h.2.2
      | succ i => exact ih (by simpa using e)
  exact key kr hi
end
section
variable {K : PySem.W.Frag} {H : Hp} {ex : Addr → Prop} {y u : U} {v : V}
theorem hasT_at (hy : keyT y = true) : ∀ {ks : List U} {xs : List (NestedKey × Addr × Value)}, KeyR K H ex ks xs → hasD ks y = (atKey xs (kN y)).isSome
  | [], _, .nil => rfl
  | k :: ks, x :: xs, .cons h t => by
    have ih := hasT_at hy t
    simp only [hasD, keyT_eq h.1 hy, ih]
    rw [← h.2.1]
    unfold atKey
    rw [List.find?_cons]
    by_cases e : x.1 = kN y
    · simp [e]
    · simp [e]
theorem lookT_at (hy : keyT y = true) : ∀ {ks : List U} {xs : List (NestedKey × Addr × Value)} {ws : List U} {vs : List V}, KeyR K H ex ks xs → Vals vs (xs.map (·.2.2)) → RepUs K H ex ws vs →
    (∀ z, lookD ks ws y = some z → ∃ a x v, atKey xs (kN y) = some (a, x) ∧ RelV v x ∧ RepU K H ex z v) ∧ (lookD ks ws y = none → atKey xs (kN y) = none)
  | [], _, ws, vs, .nil, _, _ => ⟨fun z h => by simp [lookD] at h, fun _ => rfl⟩
  | k :: ks, x :: xs, ws, vs, .cons h t, hv, r => by
    cases hv with
    | @cons v0 _ vs _ rv hv =>
      cases ws with
      | nil => simp [RepUs] at r
      | cons w ws =>
        simp only [RepUs] at r
        obtain ⟨v1, q, e, r1, r2⟩ := r
        cases e
        obtain ⟨i1, i2⟩ := lookT_at hy t hv r2
        have ea : atKey (x :: xs) (kN y) = if x.1 = kN y then some x.2 else atKey xs (kN y) := by
          unfold atKey
          rw [List.find?_cons]
          by_cases e : x.1 = kN y <;> simp [e]
        simp only [lookD, keyT_eq h.1 hy, ← h.2.1]
        rw [ea]
        by_cases e : x.1 = kN y
        · simp only [e, decide_true, if_true]
          refine ⟨fun z hz => ?_, fun hz => by cases hz⟩
          cases hz
          exact ⟨x.2.1, x.2.2, v0, rfl, rv, r1⟩
        · simp only [e, decide_false, Bool.false_eq_true, if_false]
          exact ⟨i1, i2⟩
theorem updT_rep {x : Value} (hy : keyT y = true) (hu : RepU K H ex u v) (rv : RelV v x) : ∀ {ks : List U} {xs : List (NestedKey × Addr × Value)} {ws : List U} {vs : List V}, KeyR K H ex ks xs → Vals vs (xs.map (·.2.2)) → RepUs K H ex ws vs →
    KeyR K H ex ks (xs.map (putAt (kN y) x)) ∧ ∃ vs', Vals vs' ((xs.map (putAt (kN y) x)).map (·.2.2)) ∧ RepUs K H ex (updD ks ws y u) vs'
  | [], _, ws, vs, .nil, _, _ => ⟨.nil, [], .nil, by simp [updD, RepUs]⟩
  | k :: ks, z :: xs, ws, vs, .cons h t, hv, r => by
    cases hv with
    | @cons v0 _ vs _ rv0 hv =>
      cases ws with
      | nil => simp [RepUs] at r
      | cons w ws =>
        simp only [RepUs] at r
        obtain ⟨v1, q, e, r1, r2⟩ := r
        cases e
        obtain ⟨i1, vs', i2, i3⟩ := updT_rep hy hu rv t hv r2
        by_cases e : z.1 = kN y
        · refine ⟨.cons ⟨h.1, by simp only [putAt, e, if_true]; rw [← e]; exact h.2.1, by simp only [putAt, e, if_true]; exact h.2.2⟩ i1, v :: vs', ?_, ?_⟩
          · simp only [List.map_cons]
            exact .cons (by simp only [putAt, e, if_true]; exact rv) i2
          · simp only [updD, keyT_eq h.1 hy, ← h.2.1, e, decide_true, if_true, RepUs]
            exact ⟨v, vs', rfl, hu, i3⟩
        · refine ⟨.cons ⟨h.1, by simp only [putAt, e, if_false]; exact h.2.1, by simp only [putAt, e, if_false]; exact h.2.2⟩ i1, v0 :: vs', ?_, ?_⟩
          · simp only [List.map_cons]
            exact .cons (by simp only [putAt, e, if_false]; exact rv0) i2
          · simp only [updD, keyT_eq h.1 hy, ← h.2.1, e, decide_false, Bool.false_eq_true, if_false, RepUs]
            exact ⟨v0, vs', rfl, r1, i3⟩
theorem KeyR.append {ks1 ks2 : List U} {xs1 xs2 : List (NestedKey × Addr × Value)} (h : KeyR K H ex ks1 xs1) (k : KeyR K H ex ks2 xs2) : KeyR K H ex (ks1 ++ ks2) (xs1 ++ xs2) := by
  induction h with
  | nil => exact k
  | cons a _ ih => exact .cons a ih
theorem putT_rep {x : Value} {b : Addr} (hy : keyT y = true) (ry : RepU K H ex y (.ref b)) (hu : RepU K H ex u v) (rv : RelV v x) {ks : List U} {xs : List (NestedKey × Addr × Value)} {ws : List U} {vs : List V} (kr : KeyR K H ex ks xs) (hv : Vals vs (xs.map (·.2.2))) (r : RepUs K H ex ws vs) :
    KeyR K H ex (putDk ks y) (storedH xs (kN y) b x) ∧ ∃ vs', Vals vs' ((storedH xs (kN y) b x).map (·.2.2)) ∧ RepUs K H ex (putDv ks ws y u) vs' := by
  unfold putDk putDv storedH
  rw [hasT_at hy kr]
  by_cases h : (atKey xs (kN y)).isSome = true
  · simp only [h, if_true]
    exact updT_rep hy hu rv kr hv r
  · simp only [h, if_false, Bool.false_eq_true]
    refine ⟨kr.append (.cons ⟨hy, rfl, ry⟩ .nil), vs ++ [v], ?_, r.append (by simp only [RepUs]; exact ⟨v, [], rfl, hu, rfl⟩)⟩
    rw [List.map_append]
    exact Vals.append hv (.cons rv .nil)
theorem delT_rep (hy : keyT y = true) : ∀ {ks : List U} {xs : List (NestedKey × Addr × Value)} {ws : List U} {vs : List V}, KeyR K H ex ks xs → Vals vs (xs.map (·.2.2)) → RepUs K H ex ws vs →
    KeyR K H ex (delDk ks y) (withoutH xs (kN y)) ∧ ∃ vs', Vals vs' ((withoutH xs (kN y)).map (·.2.2)) ∧ RepUs K H ex (delDv ks ws y) vs'
  | [], _, ws, vs, .nil, _, _ => ⟨.nil, [], .nil, by simp [delDv, RepUs]⟩
  | k :: ks, z :: xs, ws, vs, .cons h t, hv, r => by
    cases hv with
    | @cons v0 _ vs _ rv0 hv =>
      cases ws with
      | nil => simp [RepUs] at r
      | cons w ws =>
        simp only [RepUs] at r
        obtain ⟨v1, q, e, r1, r2⟩ := r
        cases e
        obtain ⟨i1, vs', i2, i3⟩ := delT_rep hy t hv r2
        have ew : withoutH (z :: xs) (kN y) = if z.1 = kN y then withoutH xs (kN y) else z :: withoutH xs (kN y) := by
          unfold withoutH
          rw [List.filter_cons]
          by_cases e : z.1 = kN y <;> simp [e]
        rw [ew]
        simp only [delDk, delDv, keyT_eq h.1 hy, ← h.2.1]
        by_cases e : z.1 = kN y
        · simp only [e, decide_true, if_true]
          exact ⟨i1, vs', i2, i3⟩
        · simp only [e, decide_false, Bool.false_eq_true, if_false]
          refine ⟨.cons h i1, v0 :: vs', ?_, ?_⟩
          · rw [List.map_cons]
            exact .cons rv0 i2
          · simp only [RepUs]
            exact ⟨v0, vs', rfl, r1, i3⟩
end
theorem room8 {X : Cx} (hu : X.A.units + 64 < cLine) : (nestedKind X.prog X.w).room X.A.in1 := by
  show X.A.units + 1 + 8 < cLine
  omega
theorem keyT_vw {ww : World} {K : PySem.W.Frag} {H : Hp} {ex : Addr → Prop} {y : U} {v : V} (h : keyT y = true) (q : Vw ww K H ex y v) : RepU K H ex y v := by
  cases y <;> first | exact q | cases h
/-- y in d, y not in d -/
noncomputable def rInT (w : World) (K : PySem.W.Frag) (neg : Bool) : R2 := fun x y H Q => ∃ ex u ks ws, Vw w K H ex (.dit ks ws) y ∧ keyT u = true ∧ RepU K H ex u x ∧ Q (.bl (if neg then !hasD ks u else hasD ks u)) H
theorem op_inT {X : Cx} (hu : X.A.units + 64 < cLine) : OpR X (compareOp .In) (rInT X.w X.K false) := by
  intro pins s σ H x y v u Q I rx ry h
  obtain ⟨ex, z, ks, ws, ⟨a, o, rfl, hr, xs, vs, rfl, n, z1, nd, kr, hv, r⟩, hk, rz, q⟩ := h
  obtain ⟨b, rfl⟩ := key_ref hk rz
  cases rx
  cases ry
  refine wpAny_in_heap (room8 hu) (key_is I hk rz) n (dit_of I hr nd kr) ?_
  rw [← hasT_at hk kr]
  exact ⟨.bl _, H, I.tok _, rfl, q⟩
theorem op_ninT {X : Cx} (hu : X.A.units + 64 < cLine) : OpR X (compareOp .NotIn) (rInT X.w X.K true) := by
  intro pins s σ H x y v u Q I rx ry h
  obtain ⟨ex, z, ks, ws, ⟨a, o, rfl, hr, xs, vs, rfl, n, z1, nd, kr, hv, r⟩, hk, rz, q⟩ := h
  obtain ⟨b, rfl⟩ := key_ref hk rz
  cases rx
  cases ry
  refine wpAny_notIn_heap (room8 hu) (key_is I hk rz) n (dit_of I hr nd kr) ?_
  rw [← hasT_at hk kr]
  exact ⟨.bl _, H, I.tok _, rfl, q⟩
/-- d[y] -/
noncomputable def rIxT (w : World) (K : PySem.W.Frag) : R2 := fun x y H Q => ∃ ex u ks ws z, Vw w K H ex (.dit ks ws) x ∧ keyT u = true ∧ RepU K H ex u y ∧ lookD ks ws u = some z ∧ ∀ v, RepU K H ex z v → Q v H
theorem ix_dit {X : Cx} (hu : X.A.units + 64 < cLine) : IxR X (rIxT X.w X.K) := by
  intro value slice pins s σ H x y v u Q I rx ry h hs
  obtain ⟨ex, w, ks, ws, z, ⟨a, o, rfl, hr, xs, vs, rfl, n, z1, nd, kr, hv, r⟩, hk, rz, hl, q⟩ := h
  obtain ⟨b, rfl⟩ := key_ref hk rz
  cases (show v = Value.ref a from rx)
  cases ry
  have hd := dit_of I hr nd kr
  obtain ⟨c, x0, v0, e1, e2, e3⟩ := (lookT_at hk kr hv r).1 z hl
  exact tail_any hd.typeIs PySem.F.slot_dict_getitem.lookup (wpAny_getItem_heap (room8 hu) (key_is I hk rz) hd e1 ⟨v0, H, I.tok _, e2, q v0 e3⟩) hs
end Mp
namespace Mp
open PySem PySem.Spec PyProof.Rows L2
noncomputable def rCmp (w : World) (K : PySem.W.Frag) : COp → R2
  | .deq => rEqD K false
  | .dne => rEqD K true
  | .eq => rEqU K false
  | .ne => rEqU K true
  | .lt => fun x y H Q => rI0 (fun i j => .bl (decide (i < j))) x y H Q ∨ ∃ i j : Str, x = .str i ∧ y = .str j ∧ Q (.bl (decide (i.cps.toList < j.cps.toList))) H
  | .le => rI0 fun i j => .bl (decide (i ≤ j))
  | .gt => rI0 fun i j => .bl (decide (j < i))
  | .ge => rI0 fun i j => .bl (decide (j ≤ i))
  | .inn => fun x y H Q => rInT w K false x y H Q ∨ rInD false x y H Q ∨ rInU K false x y H Q ∨ ∃ (c : Nat) (z : Str), x = .str ⟨#[c]⟩ ∧ y = .str z ∧ Q (.bl (decide (c ∈ z.cps.toList))) H
  | .nin => fun x y H Q => rInT w K true x y H Q ∨ rInD true x y H Q ∨ rInU K true x y H Q ∨ ∃ (c : Nat) (z : Str), x = .str ⟨#[c]⟩ ∧ y = .str z ∧ Q (.bl (!decide (c ∈ z.cps.toList))) H
theorem op_cmp {X : Cx} (hu : X.A.units + 64 < cLine) : ∀ op : COp, OpR X (compareOp op.op) (rCmp X.w X.K op)
  | .deq => op_eqD hu
  | .dne => op_neD hu
  | .eq => op_eqU hu
  | .ne => op_neU hu
  | .lt => OpR.or op_lt op_lt_str
  | .le => op_le
  | .gt => op_gt
  | .ge => op_ge
  | .inn => OpR.or (op_inT hu) <| OpR.or (op_inD hu) (OpR.or (op_inU hu) op_in_sign)
  | .nin => OpR.or (op_ninT hu) <| OpR.or (op_ninD hu) (OpR.or (op_ninU hu) op_notIn_sign)
section
variable {c : Cx0} {Γ : Cal} {X : Cx} {L Z Z' : Addr → Prop} {σ : L2.St} {H H2 : Hp} {ρ ρ2 : Rho} {G G2 : Hh} {f ex : Addr → Prop} {x y : V} {u w : U} {Qm : Kc} {Q : VK} {a b d : E} {e1 e2 e3 : Expr} {pos : Pos} {r : R}
/-- a comparison's answer is a truth -/
theorem cmp_of {ww : World} {op : COp} {K : Bool → Prop} {Q : VK} (ew : ww = X.w) (hv : Vw ww X.K H ex u x) (hw : Vw ww X.K H ex w y) (h : cmpU op u w K) (q : ∀ k, K k → Q (.bl k) H) : rCmp X.w X.K op x y H Q := by
  cases op with
  | deq =>
    cases u <;> try exact h.elim
    cases w <;> try exact h.elim
    exact ⟨_, ex, ex, _, _, _, _, hv, hw, h.1.1, h.1.2, q _ h.2⟩
  | dne =>
    cases u <;> try exact h.elim
    cases w <;> try exact h.elim
    exact ⟨_, ex, ex, _, _, _, _, hv, hw, h.1.1, h.1.2, q _ h.2⟩
  | eq => exact ⟨_, ex, ex, u, w, hv, hw, h.1.1, h.1.2, q _ h.2⟩
  | ne => exact ⟨_, ex, ex, u, w, hv, hw, h.1.1, h.1.2, q _ h.2⟩
  | lt =>
    cases u <;> try exact h.elim
    · cases w <;> try exact h.elim
      simp only [Vw, RepU] at hv hw
      exact .inl ⟨_, _, hv, hw, q _ h⟩
    · cases w <;> try exact h.elim
      simp only [Vw, RepU] at hv hw
      exact .inr ⟨_, _, hv.1, hw.1, q _ h⟩
  | le =>
    cases u <;> try exact h.elim
    cases w <;> try exact h.elim
    simp only [Vw, RepU] at hv hw
    exact ⟨_, _, hv, hw, q _ h⟩
  | gt =>
    cases u <;> try exact h.elim
    cases w <;> try exact h.elim
    simp only [Vw, RepU] at hv hw
    exact ⟨_, _, hv, hw, q _ h⟩
  | ge =>
    cases u <;> try exact h.elim
    cases w <;> try exact h.elim
    simp only [Vw, RepU] at hv hw
    exact ⟨_, _, hv, hw, q _ h⟩
  | inn =>
    cases w <;> try exact h.elim
    · cases u <;> try exact h.elim
      rename_i t s
      match s, h with
      | [c], h =>
        simp only [Vw, RepU] at hv hw
        exact .inr (.inr (.inr ⟨c, _, hv.1, hw.1, q _ h⟩))
    · exact .inr (.inr (.inl ⟨_, ex, ex, u, _, hv, .inr hw, h.1.1, h.1.2, q _ h.2⟩))
    · exact .inr (.inr (.inl ⟨_, ex, ex, u, _, hv, .inl hw, h.1.1, h.1.2, q _ h.2⟩))
    · obtain ⟨h1, h2⟩ := h
      obtain ⟨a, kvs, k, e, r, e2, q2, e3, e4, g⟩ := vw_dic hw h1 (key_vw h1 hv)
      subst e2 e3
      rw [hasD_val] at h2
      exact .inr (.inl ⟨a, _, e, g, q _ h2⟩)
    · subst ew
      exact .inl ⟨ex, u, _, _, hw, h.1, keyT_vw h.1 hv, q _ h.2⟩
  | nin =>
    cases w <;> try exact h.elim
    · cases u <;> try exact h.elim
      rename_i t s
      match s, h with
      | [c], h =>
        simp only [Vw, RepU] at hv hw
        exact .inr (.inr (.inr ⟨c, _, hv.1, hw.1, q _ h⟩))
    · exact .inr (.inr (.inl ⟨_, ex, ex, u, _, hv, .inr hw, h.1.1, h.1.2, q _ h.2⟩))
    · exact .inr (.inr (.inl ⟨_, ex, ex, u, _, hv, .inl hw, h.1.1, h.1.2, q _ h.2⟩))
    · obtain ⟨h1, h2⟩ := h
      obtain ⟨a, kvs, k, e, r, e2, q2, e3, e4, g⟩ := vw_dic hw h1 (key_vw h1 hv)
      subst e2 e3
      rw [hasD_val] at h2
      exact .inr (.inl ⟨a, _, e, g, q _ h2⟩)
    · subst ew
      exact .inl ⟨ex, u, _, _, hw, h.1, keyT_vw h.1 hv, q _ h.2⟩
/-- the end of what is a truth -/
noncomputable def EndB (c : Cx0) (X : Cx) (L Z : Addr → Prop) (σ : L2.St) (H : Hp) (f : Addr → Prop) (Qm : Kc) (Q : VK) : Prop :=
  ∀ k ρ' G' H' Z', (∀ a, Z a → Z' a) → Ext H f H' (fp σ ρ' G') → Rep c.ca X.K L Z' σ H' ρ' G' → Qm (.u (.bl k)) ρ' G' → Q (.bl k) H'
theorem EndE.toB (en : EndE c X L Z σ H f Qm Q) : EndB c X L Z σ H f Qm Q := fun k ρ' G' H' Z' hz hx R q => en.ofU R hz hx (by simp only [RepU]) q
theorem cmp_go {op : COp} {Xm : Xc} (R : Rep c.ca X.K L Z σ H ρ G) (hL : ∀ a, L a → Z a) (w : wpE c.P Γ (.cmp op a b) ρ G Xm Qm) (tk : Tk c X L Z H (fp σ ρ G) Xm) (en : EndB c X L Z σ H (fp σ ρ G) Qm Q) : tOp (rCmp X.w X.K op) (tE c Γ X a) (tE c Γ X b) σ H Q := by
  simp only [wpE] at w
  refine two R hL w tk fun ra rb ρ2 G2 x y H2 Z' hz ha hb hx R2 qa qb w2 => ?_
  obtain ⟨u, eu, w2⟩ := vwK_out w2
  obtain ⟨z, ez, w2⟩ := vwK_out w2
  exact cmp_of tk.1 (vw_ok R2 qa eu) (vw_ok R2 qb ez) w2 fun k hk => en k _ _ _ _ hz hx R2 hk
theorem e_cmp {op : COp} (hu : X.A.units + 64 < cLine) (ha : PE X e1 (tE c Γ X a)) (hb : PE X e2 (tE c Γ X b)) (hm : behindInMarks op.op e2 = false) : PE X (.Compare e1 [op.op] [e2] pos) (tE c Γ X (.cmp op a b)) :=
  PE.imp (pe_cmpR (op_cmp hu op) ha hb hm) fun σ H Q ⟨L, Z, ρ, G, Xm, Qm, R, hL, w, tk, en⟩ => cmp_go R hL w tk (EndE.toB en)
theorem chain_go {o1 o2 : COp} {Xm : Xc} (R : Rep c.ca X.K L Z σ H ρ G) (hL : ∀ a, L a → Z a) (w : wpE c.P Γ (.chain o1 o2 a b d) ρ G Xm Qm) (tk : Tk c X L Z H (fp σ ρ G) Xm) (en : EndB c X L Z σ H (fp σ ρ G) Qm Q) :
    tChain (rCmp X.w X.K o1) (rCmp X.w X.K o2) (tE c Γ X a) (tE c Γ X b) (tE c Γ X d) σ H Q := by
  simp only [wpE] at w
  refine two (S := fun x y H2 => rCmp X.w X.K o1 x y H2 fun z H3 => ∃ k, z = .bl k ∧ (if k = true then tE c Γ X d σ H3 fun w' H4 => rCmp X.w X.K o2 y w' H4 Q else Q (.bl false) H3)) R hL w tk fun ra rb ρ2 G2 x y H2 Z' hz ha hb hx R2 qa qb w2 => ?_
  obtain ⟨u, eu, w2⟩ := vwK_out w2
  obtain ⟨z, ez, w2⟩ := vwK_out w2
  refine cmp_of tk.1 (vw_ok R2 qa eu) (vw_ok R2 qb ez) w2 fun k hk => ⟨k, rfl, ?_⟩
  cases k with
  | false =>
    rw [if_neg Bool.false_ne_true]
    exact en false _ _ _ _ hz hx R2 hk
  | true =>
    rw [if_pos rfl]
    refine ⟨L, Z', ρ2, G2, Xm, _, R2, fun a z => hz a (hL a z), hk, tk.go hx hz, fun rc ρ3 G3 z3 H3 e3 R3 w3 => ?_⟩
    obtain ⟨u3, eu3, w3⟩ := vwK_out w3
    obtain ⟨z4, ez4, w3⟩ := vwK_out w3
    have qb3 : Val c.ca.w X.K H3 (Or2 (fp σ ρ3 G3) (Or2 Z' (Hd rc z3))) σ rb y := by
      exact qb.step hb (fun a z => (R2.zd a z).1) e3 fun p z => (R3.new p z).1
    exact cmp_of tk.1 (vw_ok R3.rep qb3 eu3) (vw_ok R3.rep R3.val ez4) w3 fun k hk => en k _ _ _ _ (fun a z => .inl (hz a z)) (hx.trans e3) R3.rep hk
theorem e_chain {o1 o2 : COp} (hu : X.A.units + 64 < cLine) (ga : PE X e1 (tE c Γ X a)) (gb : PE X e2 (tE c Γ X b)) (hd : PE X e3 (tE c Γ X d)) (hm : lastMarks [o1.op, o2.op] [e2, e3] = false) :
    PE X (.Compare e1 [o1.op, o2.op] [e2, e3] pos) (tE c Γ X (.chain o1 o2 a b d)) :=
  PE.imp (pe_chain (op_cmp hu o1) (op_cmp hu o2) ga gb hd hm) fun σ H Q ⟨L, Z, ρ, G, Xm, Qm, R, hL, w, tk, en⟩ => chain_go R hL w tk (EndE.toB en)
/-- is None, is not None -/
theorem op_isNn : ∀ neg : Bool, OpR X (compareOp (if neg then .IsNot else .Is)) (fun x y H Q => y = .non ∧ Q (.bl (if neg then !decide (x = .non) else decide (x = .non))) H)
  | true => op_notN
  | false => op_isN
theorem nonB_ref {neg : Bool} {p : Addr} (e : x = .ref p) : (if neg then !decide (x = V.non) else decide (x = V.non)) = neg := by
  rw [e]; cases neg <;> rfl
theorem nonB_of {neg : Bool} (q : RepU X.K H ex u x) : (if neg then !decide (x = V.non) else decide (x = V.non)) = nonB u neg := by
  cases u <;> simp only [RepU] at q
  · rw [q]; cases neg <;> rfl
  · rw [q]; cases neg <;> rfl
  · rw [q]; cases neg <;> rfl
  · rw [q.1]; cases neg <;> rfl
  · obtain ⟨a, vs, e, _⟩ := q; exact nonB_ref e
  · obtain ⟨a, vs, e, _⟩ := q; exact nonB_ref e
  · obtain ⟨a, vs, e, _⟩ := q; exact nonB_ref e
  · obtain ⟨a, e⟩ := q; exact nonB_ref e
  · exact nonB_ref q
theorem isN_go {neg : Bool} {Xm : Xc} (R : Rep c.ca X.K L Z σ H ρ G) (hL : ∀ a, L a → Z a) (w : wpE c.P Γ (.isN a neg) ρ G Xm Qm) (tk : Tk c X L Z H (fp σ ρ G) Xm) (en : EndB c X L Z σ H (fp σ ρ G) Qm Q) :
    tE c Γ X a σ H fun x H1 => V.non = .non ∧ Q (.bl (if neg then !decide (x = .non) else decide (x = .non))) H1 := by
  simp only [wpE] at w
  refine one R hL w tk fun ra ρ2 G2 x H2 Z' hz ha hx R2 q w2 => ⟨rfl, ?_⟩
  have other : vwK ra ρ2 G2 (fun _ => Qm (.u (.bl neg)) ρ2 G2) → (∀ u, ra ≠ .u u) → Q (.bl (if neg then !decide (x = V.non) else decide (x = V.non))) H2 := fun w3 hr => by
    obtain ⟨u, eu, w3⟩ := vwK_out w3
    have hv := vw_ok R2 q eu
    have hp : ∃ p, x = .ref p := by
      cases ra with
      | u v => exact absurd rfl (hr v)
      | tmp v =>
        obtain ⟨p, o, e, _⟩ := q
        exact ⟨p, e⟩
      | exc k => exact ⟨k, q⟩
      | lv i =>
        have q' : σ[i]? = some (some x) := q
        cases hs : ρ2[i]? with
        | none => simp [vw, hs] at eu
        | some os =>
          cases os with
          | none => simp [vw, hs] at eu
          | some sv =>
            obtain ⟨v, e1, q1⟩ := R2.slot i sv hs
            rw [q'] at e1
            cases e1
            cases sv with
            | u y => simp [vw, hs] at eu
            | exc k => simp [vw, hs] at eu
            | own y =>
              obtain ⟨a, o, e, _⟩ := q1
              exact ⟨a, e⟩
            | fz t y => exact ⟨t, q1.1⟩
    obtain ⟨p, e⟩ := hp
    rw [nonB_ref e]
    exact en _ _ _ _ _ hz hx R2 w3
  cases ra with
  | u v =>
    rw [nonB_of q]
    exact en _ _ _ _ _ hz hx R2 w2
  | tmp v => exact other w2 fun _ h => nomatch h
  | lv i => exact other w2 fun _ h => nomatch h
  | exc k => exact other w2 fun _ h => nomatch h
theorem e_isN {neg : Bool} {j : Nat} {p2 : Pos} (ga : PE X e1 (tE c Γ X a)) : PE X (.Compare e1 [if neg then .IsNot else .Is] [.Constant .none j p2] pos) (tE c Γ X (.isN a neg)) :=
  PE.imp (pe_cmpR (op_isNn neg) ga pe_non rfl) fun σ H Q ⟨L, Z, ρ, G, Xm, Qm, R, hL, w, tk, en⟩ => isN_go R hL w tk (EndE.toB en)
theorem op_isBb : ∀ neg : Bool, OpR X (compareOp (if neg then .IsNot else .Is)) (fun x y H Q => ∃ a b : Bool, x = .bl a ∧ y = .bl b ∧ Q (.bl (if neg then !decide (a = b) else decide (a = b))) H)
  | true => op_notBl
  | false => op_isBl
theorem isB_go {k neg : Bool} {Xm : Xc} (R : Rep c.ca X.K L Z σ H ρ G) (hL : ∀ a, L a → Z a) (w : wpE c.P Γ (.isB a k neg) ρ G Xm Qm) (tk : Tk c X L Z H (fp σ ρ G) Xm) (en : EndB c X L Z σ H (fp σ ρ G) Qm Q) :
    tE c Γ X a σ H fun x H1 => ∃ a b : Bool, x = .bl a ∧ V.bl k = .bl b ∧ Q (.bl (if neg then !decide (a = b) else decide (a = b))) H1 := by
  simp only [wpE] at w
  refine one R hL w tk fun ra ρ2 G2 x H2 Z' hz ha hx R2 q w2 => ?_
  cases ra <;> try exact w2.elim
  rename_i v
  cases v <;> try exact w2.elim
  rename_i b
  simp only [Val, RepU] at q
  exact ⟨b, k, q, rfl, en _ _ _ _ _ hz hx R2 w2⟩
theorem e_isB {k neg : Bool} {j : Nat} {p2 : Pos} (ga : PE X e1 (tE c Γ X a)) : PE X (.Compare e1 [if neg then .IsNot else .Is] [.Constant (.bool k) j p2] pos) (tE c Γ X (.isB a k neg)) :=
  PE.imp (pe_cmpR (op_isBb neg) ga pe_bl rfl) fun σ H Q ⟨L, Z, ρ, G, Xm, Qm, R, hL, w, tk, en⟩ => isB_go R hL w tk (EndE.toB en)
theorem e_and {es : Es} {rest : List Expr} (ga : PE X e1 (tE c Γ X a)) (gb : PE X (.BoolOp .And (e2 :: rest) pos) (fun σ H Q => ∃ L Z ρ G Xm Qm, Rep c.ca X.K L Z σ H ρ G ∧ (∀ a, L a → Z a) ∧ wpAnd c.P Γ es ρ G Xm Qm ∧ Tk c X L Z H (fp σ ρ G) Xm ∧ EndE c X L Z σ H (fp σ ρ G) Qm Q)) :
    PE X (.BoolOp .And (e1 :: e2 :: rest) pos) (tE c Γ X (.and_ a es)) := by
  refine PE.imp (pe_andT ga gb) fun σ H Q ⟨L, Z, ρ, G, Xm, Qm, R, hL, w, tk, en⟩ => ?_
  simp only [wpE] at w
  refine ⟨L, Z, ρ, G, Xm, _, R, hL, w, tk, fun ra ρ2 G2 x H2 hx R2 w2 => ?_⟩
  obtain ⟨u, k, e, ek, w2⟩ := tstK_out w2
  refine ⟨k, tru_of (vw_ok R2.rep R2.val e) ek, ?_⟩
  cases k with
  | true =>
    rw [if_pos rfl]
    exact ⟨L, Z, ρ2, G2, Xm, Qm, R2.rep.less fun a => .inl, hL, w2, tk.go hx fun _ z => z, en.imp hx (fun _ z => z) fun _ _ _ z => z⟩
  | false =>
    rw [if_neg Bool.false_ne_true]
    have w3 : Qm (bvl ra false) ρ2 G2 := w2
    rw [bvl_ok R2.val e ek] at w3
    exact en ra ρ2 G2 x H2 hx R2 w3
theorem e_or {es : Es} {rest : List Expr} (ga : PE X e1 (tE c Γ X a)) (gb : PE X (.BoolOp .Or (e2 :: rest) pos) (fun σ H Q => ∃ L Z ρ G Xm Qm, Rep c.ca X.K L Z σ H ρ G ∧ (∀ a, L a → Z a) ∧ wpOr c.P Γ es ρ G Xm Qm ∧ Tk c X L Z H (fp σ ρ G) Xm ∧ EndE c X L Z σ H (fp σ ρ G) Qm Q)) :
    PE X (.BoolOp .Or (e1 :: e2 :: rest) pos) (tE c Γ X (.or_ a es)) := by
  refine PE.imp (pe_orT ga gb) fun σ H Q ⟨L, Z, ρ, G, Xm, Qm, R, hL, w, tk, en⟩ => ?_
  simp only [wpE] at w
  refine ⟨L, Z, ρ, G, Xm, _, R, hL, w, tk, fun ra ρ2 G2 x H2 hx R2 w2 => ?_⟩
  obtain ⟨u, k, e, ek, w2⟩ := tstK_out w2
  refine ⟨k, tru_of (vw_ok R2.rep R2.val e) ek, ?_⟩
  cases k with
  | false =>
    rw [if_neg Bool.false_ne_true]
    exact ⟨L, Z, ρ2, G2, Xm, Qm, R2.rep.less fun a => .inl, hL, w2, tk.go hx fun _ z => z, en.imp hx (fun _ z => z) fun _ _ _ z => z⟩
  | true =>
    rw [if_pos rfl]
    have w3 : Qm (bvl ra true) ρ2 G2 := w2
    rw [bvl_ok R2.val e ek] at w3
    exact en ra ρ2 G2 x H2 hx R2 w3
theorem idx_of {ww : World} {K : U → Prop} {Q : VK} (ew : ww = X.w) (hv : Vw ww X.K H ex u x) (hw : Vw ww X.K H ex w y) (h : idxU u w K) (hex : ∀ p o, H p = some o → (∃ vs, o = .lst vs) → True) (q : ∀ z v, K z → RepU X.K H ex z v → Q v H) : rIxT X.w X.K x y H Q ∨ rIxDG x y H Q ∨ rIx X.K x y H Q := by
  have at_ : ∀ {xs : List U} {vs : List V} {i : Int}, RepUs X.K H ex xs vs → atK xs i K → ∃ v, atI vs i = some v ∧ Q v H := fun {xs vs i} r k => by
    obtain ⟨z, e, k⟩ := optK_out k
    obtain ⟨j, e1, e2, e3, e4⟩ := atI_get e
    obtain ⟨v, e5, e6⟩ := r.get e2
    refine ⟨v, ?_, q z v k e6⟩
    unfold atI at e ⊢
    rw [← r.length]
    cases hj : ixN xs.length i with
    | none => rw [hj] at e; cases e
    | some j' =>
      obtain ⟨s1, _⟩ := ixN_seq hj
      rw [e1] at s1
      cases s1
      exact e5
  cases u <;> try exact h.elim
  · cases w <;> try exact h.elim
    simp only [Vw, RepU] at hv hw
    obtain ⟨z, e, k⟩ := optK_out h
    exact .inr (.inr (.inr (.inr ⟨_, _, z, hv.1, hw, hv.2.1, e, q (.str [z]) _ k (by
      simp only [RepU]
      refine ⟨trivial, by rw [List.length_singleton, sizeLine_def]; omega, fun c hc => ?_⟩
      obtain ⟨j, _, e2, _⟩ := atI_get e
      rw [List.mem_singleton.mp hc]
      exact hv.2.2 z (List.mem_of_getElem? e2))⟩)))
  · cases w <;> try exact h.elim
    simp only [Vw, RepU] at hv hw
    obtain ⟨p, vs, e, t, r⟩ := hv
    obtain ⟨v, e1, e2⟩ := at_ r h
    exact .inr (.inr (.inr (.inl ⟨p, vs, _, v, e, hw, sqT_of t, e1, e2⟩)))
  · cases w <;> try exact h.elim
    simp only [Vw, RepU] at hw
    obtain ⟨p, vs, e, t, r⟩ := hv
    obtain ⟨v, e1, e2⟩ := at_ r h
    exact .inr (.inr (.inl ⟨p, vs, _, v, e, hw, t, e1, e2⟩))
  · obtain ⟨h1, h2⟩ := h
    obtain ⟨z, ez, hk⟩ := optK_out h2
    obtain ⟨a, kvs, k, e, r, e2, q2, e3, e4, g⟩ := vw_dic hv h1 (key_vw h1 hw)
    subst e2 e3
    obtain ⟨v, hv1, hv2⟩ := (lookD_val k kvs q2).1 z ez
    rw [hv1] at g
    exact .inr (.inl ⟨a, v, e, g, q z v hk hv2⟩)
  · obtain ⟨h1, h2⟩ := h
    obtain ⟨z, ez, hk⟩ := optK_out h2
    subst ew
    exact .inl ⟨ex, w, _, _, z, hv, h1, keyT_vw h1 hw, ez, fun v r => q z v hk r⟩
theorem e_idx (hu : X.A.units + 64 < cLine) (hs : PlainIx e2) (ga : PE X e1 (tE c Γ X a)) (gb : PE X e2 (tE c Γ X b)) : PE X (.Subscript e1 e2 pos) (tE c Γ X (.idx a b)) := by
  refine PE.imp (pe_ix ((ix_dit hu).or ((ix_dictG hu).or ix_seq)) ga gb hs) fun σ H Q ⟨L, Z, ρ, G, Xm, Qm, R, hL, w, tk, en⟩ => ?_
  simp only [wpE] at w
  refine two R hL w tk fun ra rb ρ2 G2 x y H2 Z' hz ha hb hx R2 qa qb w2 => ?_
  obtain ⟨u, eu, w2⟩ := vwK_out w2
  obtain ⟨z, ez, w2⟩ := vwK_out w2
  exact idx_of tk.1 (vw_ok R2 qa eu) (vw_ok R2 qb ez) w2 (fun _ _ _ _ => trivial) fun z v k r => en.ofU R2 hz hx r k
end
end Mp
namespace Mp
open PySem PySem.Spec PyProof.Rows L2
section
variable (c : Cx0) (Γ : Cal) (X : Cx)
noncomputable def tO : Oe → TO
  | .none => tNoPart
  | .some e => tPart (tE c Γ X e)
end
section
variable {c : Cx0} {Γ : Cal} {X : Cx} {L Z Z' : Addr → Prop} {σ : L2.St} {H H1 H2 : Hp} {ρ ρ1 ρ2 : Rho} {G G1 G2 : Hh} {f ex : Addr → Prop} {x y : V} {u w : U} {Qm : Kc} {Q : VK} {a b d : E} {e1 e2 e3 : Expr} {pos p2 : Pos} {r : R}
theorem part_go {o : Oe} {Xm : Xc} {K : Option Int → Rho → Hh → Prop} {S : Option Int → Hp → Prop} (R : Rep c.ca X.K L Z σ H ρ G) (hL : ∀ a, L a → Z a) (hw : wpO c.P Γ o ρ G Xm fun rl ρ2 G2 => partK rl fun l => K l ρ2 G2) (tk : Tk c X L Z H (fp σ ρ G) Xm)
    (h : ∀ l ρ2 G2 H2, Ext H (fp σ ρ G) H2 (fp σ ρ2 G2) → Rep c.ca X.K L Z σ H2 ρ2 G2 → K l ρ2 G2 → S l H2) : tO c Γ X o σ H S := by
  cases o with
  | none =>
    simp only [wpO] at hw
    exact h none ρ G H (Ext.refl _ _) R hw
  | some e =>
    simp only [wpO] at hw
    refine ⟨L, Z, ρ, G, Xm, _, R, hL, hw, tk, fun r ρ2 G2 v H2 hx R2 w2 => ?_⟩
    cases r <;> try exact w2.elim
    rename_i z
    cases z <;> try exact w2.elim
    rename_i i
    have q := R2.val
    simp only [Val, RepU] at q
    exact ⟨i, q, h (some i) ρ2 G2 H2 hx (R2.rep.less fun a => .inl) w2⟩
theorem RepUs.cut {K : PySem.W.Frag} {us : List U} {vs : List V} (r : RepUs K H ex us vs) (lo hi : Option Int) : RepUs K H ex (Mp.cut us lo hi) (cutV vs lo hi) := by
  unfold Mp.cut cutV
  rw [r.length]
  exact (r.drop _).take _
theorem cut_all {α : Type} (xs : List α) (lo hi : Option Int) (h : HT.sIx xs.length 0 lo = 0 ∧ HT.sIx xs.length xs.length hi = xs.length) : cut xs lo hi = xs := by
  unfold cut
  rw [h.1, h.2]
  simp
noncomputable def rSlU (K : PySem.W.Frag) : V → Option Int → Option Int → Hp → VK → Prop := fun x lo hi H Q => rSlL K x lo hi H Q ∨ rSlA K x lo hi H Q ∨ rSlS x lo hi H Q
theorem cutS_cut (s : List Nat) (lo hi : Option Int) : cutS ⟨s.toArray⟩ lo hi = ⟨(cut s lo hi).toArray⟩ := by
  unfold cutS cut
  rfl
theorem cut_len {α : Type} (xs : List α) (lo hi : Option Int) : (cut xs lo hi).length ≤ xs.length := by
  unfold cut
  rw [List.length_take, List.length_drop]
  omega
theorem cut_mem {α : Type} {xs : List α} {lo hi : Option Int} {z : α} (h : z ∈ cut xs lo hi) : z ∈ xs := List.mem_of_mem_drop (List.mem_of_mem_take h)
theorem e_slc {lo hi : Oe} {l h : Option Expr} (ga : PE X e1 (tE c Γ X a)) (gl : PO X l (tO c Γ X lo)) (gh : PO X h (tO c Γ X hi)) : PE X (.Subscript e1 (.Slice l h none p2) pos) (tE c Γ X (.slc a lo hi)) := by
  refine PE.imp (pe_slice (r := rSlU X.K) (SlR.or sl_list (SlR.or sl_tupA sl_str)) ga gl gh) fun σ H Q ⟨L, Z, ρ, G, Xm, Qm, R, hL, w, tk, en⟩ => ?_
  simp only [wpE] at w
  refine ⟨L, Z, ρ, G, Xm, _, R, hL, w, tk, fun ra ρ1 G1 x H1 hx R1 w1 => ?_⟩
  refine part_go R1.rep (fun a z => .inl (hL a z)) w1 (tk.go hx fun a => .inl) fun lo ρ2 G2 H2 hx2 R2 w2 => ?_
  refine part_go R2 (fun a z => .inl (hL a z)) w2 (tk.go (hx.trans hx2) fun a => .inl) fun hi ρ3 G3 H3 hx3 R3 w3 => ?_
  have hz : ∀ a, Z a → Or2 Z (Hd ra x) a := fun a => .inl
  have hxx := hx.trans (hx2.trans hx3)
  have q3 : Val c.ca.w X.K H3 (Or2 (fp σ ρ3 G3) (Or2 Z (Hd ra x))) σ ra x := by
    have := R1.val.step (N := fun _ => False) (fun a z => .inr z) (fun a z => (R1.rep.zd a z).1) (hx2.trans hx3) fun p z => z.elim
    rw [or2_false] at this
    exact this
  obtain ⟨u, eu, w3⟩ := vwK_out w3
  have hv := vw_ok R3 q3 eu
  cases u <;> try exact w3.elim
  · rename_i s
    simp only [Vw, RepU] at hv
    refine .inr (.inr ⟨_, hv.1, hv.2.1, ?_⟩)
    rw [cutS_cut]
    refine en.ofU R3 hz hxx (u := .str (cut s lo hi)) ?_ w3
    simp only [RepU]
    exact ⟨trivial, hv.2.subl (cut_len _ _ _) fun z hz => cut_mem hz⟩
  · rename_i xs
    simp only [Vw, RepU] at hv
    obtain ⟨p, vs, e, t, q⟩ := hv
    refine .inr (.inl ⟨p, vs, e, sqT_of t, fun z => ?_, fun z p3 h3 => ?_⟩)
    · refine en.ofU R3 hz hxx (u := .tup (cut xs lo hi)) ?_ w3
      simp only [RepU]
      refine ⟨p, vs, rfl, t, ?_⟩
      rw [cut_all xs lo hi (by rw [q.length]; exact z)]
      exact q
    · have hk : ∀ a o, H3 a = some o → upd H3 p3 (.tup (cutV vs lo hi)) a = some o := fun a o e => by
        rw [upd_ne (ne_of_none e h3)]; exact e
      have np : ¬ Or2 (fp σ ρ3 G3) (Or2 Z (Hd ra x)) p3 := fun z => by
        rcases z with z | z
        · obtain ⟨o, e, _⟩ := R3.mut z
          rw [h3] at e; cases e
        · obtain ⟨_, o, e⟩ := R3.zd _ z
          rw [h3] at e; cases e
      refine en.ofU (R3.heapExt hk) hz (fun a o e n => ⟨hk a o (hxx a o e n).1, (hxx a o e n).2⟩) (u := .tup (cut xs lo hi)) ?_ w3
      simp only [RepU]
      exact ⟨p3, _, rfl, .inl ⟨.inl upd_same, np⟩, RepUs.ext (fun a o e n => ⟨hk a o e, n⟩) _ (q.cut lo hi)⟩
  · rename_i xs
    obtain ⟨p, vs, e, t, q⟩ := hv
    refine .inl ⟨p, vs, e, t, fun p3 h3 => ?_⟩
    exact en.new R3 hz hxx h3 (u := .lst (cut xs lo hi)) ⟨_, rfl, q.cut lo hi⟩ w3
theorem pe_neg1 {j : Nat} {p1 p2 : Pos} : PE X (.UnaryOp .USub (.Constant (.int 1) j p1) p2) (tC (.int (-1))) := PE.imp (pe_un un_neg pe_int) fun σ H Q h => ⟨1, rfl, h⟩
/-- xs[::-1] -/
theorem pe_sliceRev {e : Expr} {te : TE} {j1 : Nat} {p3 p4 : Pos} (he : PE X e te) : PE X (.Subscript e (.Slice none none (some (.UnaryOp .USub (.Constant (.int 1) j1 p3) p4)) p2) pos) (fun σ H Q => te σ H fun x H1 => ∃ a xs, x = .ref a ∧ SqL X.K H1 a xs ∧ ∀ p, H1 p = none → Q (.ref p) (upd H1 p (.lst xs.reverse))) := by
  refine ⟨fun pins s σ H Q I h => ?_⟩
  refine Subscript_ (thn (he.run pins s σ H _ I h) fun v s1 ⟨x, H1, I1, r1, a, xs, ex, hx, q1⟩ => ?_)
  subst ex
  cases r1
  refine wpAny_Slice (thn (po_none.run pins s1 σ H1 (fun l H2 => l = none ∧ H2 = H1) I1 ⟨rfl, rfl⟩) fun vl s2 ⟨l, H2, I2, pl, e1, e2⟩ => thn (po_none.run pins s2 σ H2 (fun l H3 => l = none ∧ H3 = H1) I2 ⟨rfl, e2⟩) fun vu s3 ⟨u, H3, I3, pu, e3, e4⟩ => ?_)
  subst e1 e2 e3 e4
  refine thn ((po_some pe_neg1).run pins s3 σ H3 (fun l H4 => l = some (-1) ∧ H4 = H3) I3 ?_) fun vk s4 ⟨k, H4, I4, pk, e5, e6⟩ => ?_
  · exact ⟨-1, rfl, rfl, rfl⟩
  subst e5 e6
  have I5 : Inv X pins σ H4 { s4 with heap := s4.heap.push { cls := .type "slice", data := .fields #[vl, vu, vk] } } := I4.kept (t' := s4.toks) fun b ob q => Heap.get?_push_of_some _ q
  obtain ⟨its, r, ht, hz⟩ := I5.list hx
  show wpAny (model X.prog X.w) X.A (subscriptTail e (.Slice none none (some (.UnaryOp .USub (.Constant (.int 1) j1 p3) p4)) p2) (.ref a) (.ref s4.heap.objs.size)) (EP X pins σ Q) X.xe { s4 with heap := s4.heap.push { cls := .type "slice", data := .fields #[vl, vu, vk] } }
  refine tail_any (ops := [.ref a, .ref s4.heap.objs.size]) (T := "list") ht.isList.typeIs slot_list_getitem.lookup ?_ (by with_unfolding_all rfl)
  refine wpAny_getItem_list_slice ht.isList (Heap.IsSliceOf.new ..) pl pu pk (by simp) ?_ (by rw [List.size_toArray, ← r.length] <;> omega)
  rw [PySem.W.krv_pick]
  refine ⟨.ref (s4.heap.push { cls := .type "slice", data := .fields #[vl, vu, vk] }).objs.size, _, I5.laid (t' := s4.toks) (o := .lst xs.reverse) (fun b ob q => Heap.get?_push_of_some _ q) (Nat.le_refl _) ?_, rfl, q1 _ (I5.hok.fresh (Nat.le_refl _))⟩
  exact ⟨by rw [List.length_reverse]; exact hz, _, 0, r.reverse, Heap.get?_push_size _ rfl⟩
theorem e_rev {j1 : Nat} {p3 p4 : Pos} (ga : PE X e1 (tE c Γ X a)) : PE X (.Subscript e1 (.Slice none none (some (.UnaryOp .USub (.Constant (.int 1) j1 p3) p4)) p2) pos) (tE c Γ X (.bcall .rev (.cons a .nil))) := by
  refine PE.imp (pe_sliceRev ga) fun σ H Q ⟨L, Z, ρ, G, Xm, Qm, R, hL, w, tk, en⟩ => ?_
  simp only [wpE, wpEs] at w
  refine ⟨L, Z, ρ, G, Xm, _, R, hL, w, tk, fun ra ρ1 G1 x H1 hx R1 w1 => ?_⟩
  obtain ⟨u, eu, w3⟩ := vwK_out w1
  have hv := vw_ok R1.rep R1.val eu
  cases u <;> try exact w3.elim
  rename_i xs
  obtain ⟨p, vs, e, t, q⟩ := hv
  refine ⟨p, vs, e, t, fun p3 h3 => ?_⟩
  exact en.new R1.rep (fun a z => .inl z) hx h3 (u := .lst xs.reverse) ⟨_, rfl, q.reverse⟩ w3
noncomputable def Hds : List R → List V → Addr → Prop
  | r :: rs, v :: vs => Or2 (Hd r v) (Hds rs vs)
  | _, _ => fun _ => False
noncomputable def ValL (W : World) (K : PySem.W.Frag) (H : Hp) (ex : Addr → Prop) (σ : L2.St) : List R → List V → Prop
  | [], vs => vs = []
  | r :: rs, vs => ∃ v t, vs = v :: t ∧ Val W K H ex σ r v ∧ ValL W K H ex σ rs t
/-- no two of the answers are one new object -/
noncomputable def Apart : List R → List V → Prop
  | r :: rs, v :: vs => (∀ a, Hd r v a → ¬ Hds rs vs a) ∧ Apart rs vs
  | _, _ => True
noncomputable def tA (c : Cx0) (Γ : Cal) (X : Cx) (es : Es) : TA := fun σ H Q => ∃ L Z ρ G Xm Qm, Rep c.ca X.K L Z σ H ρ G ∧ (∀ a, L a → Z a) ∧ wpEs c.P Γ es ρ G Xm Qm ∧ Tk c X L Z H (fp σ ρ G) Xm ∧
  ∀ rs ρ' G' vs H', Ext H (fp σ ρ G) H' (fp σ ρ' G') → Rep c.ca X.K L (Or2 Z (Hds rs vs)) σ H' ρ' G' → ValL c.ca.w X.K H' (Or2 (fp σ ρ' G') (Or2 Z (Hds rs vs))) σ rs vs → Apart rs vs → (∀ p, Hds rs vs p → (H p = none ∨ fp σ ρ G p) ∧ ¬ Z p) → Qm rs ρ' G' → Q vs H'
theorem PA.imp {es : List Expr} {t t' : TA} (h : PA X es t) (i : ∀ σ H Q, t' σ H Q → t σ H Q) : PA X es t' := ⟨fun pos pins s σ H Q I q => h.run pos pins s σ H Q I (i σ H Q q)⟩
theorem ValL.step {ww : World} {f f' N : Addr → Prop} : ∀ {rs : List R} {vs : List V}, ValL ww X.K H (Or2 f Z) σ rs vs → (∀ a, Hds rs vs a → Z a) → (∀ a, Z a → ¬ f a) → Ext H f H1 f' → (∀ p, N p → (H p = none ∨ f p)) → ValL ww X.K H1 (Or2 f' (Or2 Z N)) σ rs vs
  | [], vs, q, _, _, _, _ => q
  | r :: rs, vs, q, hz, hd, h, hn => by
    obtain ⟨v, t, e, q1, q2⟩ := q
    subst e
    exact ⟨v, t, rfl, q1.step (fun a z => hz a (.inl z)) hd h hn, ValL.step q2 (fun a z => hz a (.inr z)) hd h hn⟩
theorem a_nil : PA X [] (tA c Γ X .nil) := PA.imp pa_nil fun σ H Q ⟨L, Z, ρ, G, Xm, Qm, R, hL, w, tk, en⟩ => by
  simp only [wpEs] at w
  have e : Hds [] ([] : List V) = fun _ => False := rfl
  refine en [] ρ G [] H (Ext.refl _ _) ?_ rfl trivial (fun p z => z.elim) w
  rw [e, or2_false]; exact R
theorem a_cons {es : Es} {el : List Expr} (ga : PE X e1 (tE c Γ X a)) (gs : PA X el (tA c Γ X es)) (hs : starEach (e1 :: el) X.env = (false, eval e1 X.env) :: starEach el X.env) : PA X (e1 :: el) (tA c Γ X (.cons a es)) := by
  refine PA.imp (pa_cons ga gs hs) fun σ H Q ⟨L, Z, ρ, G, Xm, Qm, R, hL, w, tk, en⟩ => ?_
  simp only [wpEs] at w
  refine ⟨L, Z, ρ, G, Xm, _, R, hL, w, tk, fun ra ρ1 G1 x H1 hx R1 w1 => ?_⟩
  refine ⟨L, Or2 Z (Hd ra x), ρ1, G1, Xm, _, R1.rep, fun a z => .inl (hL a z), w1, tk.go hx fun a => .inl, fun rs ρ2 G2 vs H2 hx2 R2 q2 ap nw w2 => ?_⟩
  have e : Or2 (Or2 Z (Hd ra x)) (Hds rs vs) = Or2 Z (Hds (ra :: rs) (x :: vs)) := or2_assoc
  refine en (ra :: rs) ρ2 G2 (x :: vs) H2 (hx.trans hx2) (e ▸ R2) ⟨x, vs, rfl, ?_, e ▸ q2⟩ ⟨fun a h1 h2 => (nw a h2).2 (.inr h1), ap⟩ (fun p z => ?_) w2
  · rw [← e]
    exact R1.val.step (fun a z => .inr z) (fun a z => (R1.rep.zd a z).1) hx2 fun p z => (nw p z).1
  · rcases z with z | z
    · exact R1.new p z
    · obtain ⟨n1, n2⟩ := nw p z
      refine ⟨?_, fun k => n2 (.inl k)⟩
      cases e1 : H p with
      | none => exact .inl rfl
      | some o =>
        by_cases ff : fp σ ρ G p
        · exact .inr ff
        · have h2 := hx p o e1 ff
          rcases n1 with k | k
          · rw [h2.1] at k; cases k
          · exact absurd k h2.2
end
end Mp
namespace Mp
open PySem PySem.Spec PyProof.Rows L2
section
variable {c : Cx0} {Γ : Cal} {X : Cx} {L Z Z' : Addr → Prop} {σ : L2.St} {H H1 H2 : Hp} {ρ ρ1 ρ2 : Rho} {G G1 G2 : Hh} {f ex : Addr → Prop} {x y v : V} {u w : U} {Qm : Kc} {Q : VK} {a b d : E} {e1 e2 e3 : Expr} {pos p2 : Pos} {r : R} {K : PySem.W.Frag} {ca : Cs}
theorem set_at {ρ : Rho} {i j : Nat} {o : Option SV} {s : SV} (h : (ρ.set i o)[j]? = some (some s)) : (j = i ∧ o = some s) ∨ (j ≠ i ∧ ρ[j]? = some (some s)) := by
  by_cases e : j = i
  · subst e
    have hl : j < ρ.length := by
      obtain ⟨h1, _⟩ := List.getElem?_eq_some_iff.mp h
      simpa using h1
    rw [List.getElem?_set_self hl] at h
    exact .inl ⟨rfl, Option.some.inj h⟩
  · rw [List.getElem?_set_ne (Ne.symm e)] at h
    exact .inr ⟨e, h⟩
theorem repU_ofC {ww : World} {p : Addr} {o : HO} (h : H p = some o) (n : ¬ ex p) (q : RepC K H ex ww p u o) : RepU K H ex u (.ref p) := by
  cases u <;> simp only [RepC] at q <;> simp only [RepU]
  · obtain ⟨vs, e, q⟩ := q
    subst e
    exact ⟨p, vs, rfl, .inl ⟨.inl h, n⟩, q⟩
  · obtain ⟨kvs, e, e2, q⟩ := q
    subst e
    exact ⟨p, kvs, rfl, n, .inl h, e2, q⟩
  · exact ⟨p, rfl⟩
/-- a slot's list is frozen -/
theorem Rep.freeze {i : Nat} (R : Rep ca K L Z σ H ρ G) (hs : ρ[i]? = some (some (.own u))) (hv : σ[i]? = some (some v)) :
    Rep ca K L Z σ H (ρ.set i (some (.u u))) G ∧ RepU K H (Or2 (fp σ (ρ.set i (some (.u u))) G) Z) u v ∧ ∀ a, fp σ (ρ.set i (some (.u u))) G a → fp σ ρ G a := by
  obtain ⟨w, e1, p, o, e2, e3, q⟩ := R.slot i _ hs
  rw [hv] at e1
  cases e1
  subst e2
  have sub : ∀ a, fp σ (ρ.set i (some (.u u))) G a → fp σ ρ G a := fun a h => by
    rcases h with h | ⟨j, x, h1, h2⟩
    · exact .inl h
    · rcases set_at h1 with ⟨_, h⟩ | ⟨_, h⟩
      · cases h
      · exact .inr ⟨j, x, h, h2⟩
  have np : ¬ Or2 (fp σ (ρ.set i (some (.u u))) G) Z p := fun h => by
    rcases h with h | h
    · rcases h with ⟨o, h⟩ | ⟨j, x, h1, h2⟩
      · rw [R.ownG i u p hs hv] at h; cases h
      · rcases set_at h1 with ⟨_, h⟩ | ⟨ne, h⟩
        · cases h
        · exact ne (R.own j i x u p h hs h2 hv)
    · exact (R.zd p h).1 (.inr ⟨i, u, hs, hv⟩)
  have hx : Ext H (Or2 (fp σ ρ G) Z) H (Or2 (fp σ (ρ.set i (some (.u u))) G) Z) := Ext.sub fun a q => q.elim (fun q => .inl (sub a q)) .inr
  have ru : RepU K H (Or2 (fp σ (ρ.set i (some (.u u))) G) Z) u (.ref p) := repU_ofC e3 np (q.ext hx)
  refine ⟨⟨by rw [List.length_set]; exact R.len, fun j sv e => ?_, fun j k x y a h1 h2 h3 h4 => ?_, fun j x a h1 h2 => ?_, fun a o e => ?_, fun a z => ?_⟩, ru, sub⟩
  · rcases set_at e with ⟨e4, e5⟩ | ⟨_, e⟩
    · cases e5
      subst e4
      exact ⟨.ref p, hv, ru⟩
    · obtain ⟨w, e4, q4⟩ := R.slot j sv e
      exact ⟨w, e4, q4.ext hx (fun a o h n => ⟨h, fun q => n (sub a q)⟩) fun _ _ _ _ _ e => e⟩
  · rcases set_at h1 with ⟨_, h⟩ | ⟨_, h1⟩
    · cases h
    · rcases set_at h2 with ⟨_, h⟩ | ⟨_, h2⟩
      · cases h
      · exact R.own j k x y a h1 h2 h3 h4
  · rcases set_at h1 with ⟨_, h⟩ | ⟨_, h1⟩
    · cases h
    · exact R.ownG j x a h1 h2
  · obtain ⟨ho, e4, q4⟩ := R.heap a o e
    exact ⟨ho, e4, q4.ext hx⟩
  · exact ⟨fun q => (R.zd a z).1 (sub a q), (R.zd a z).2⟩
theorem Val.ext {ww : World} {ex ex' : Addr → Prop} {r : Mp.R} {v : V} (h : Ext H ex H ex') (q : Val ww K H ex σ r v) : Val ww K H ex' σ r v := by
  cases r with
  | u x => exact RepU.ext h x q
  | tmp x =>
    obtain ⟨p, o, e, e2, q⟩ := q
    exact ⟨p, o, e, e2, q.ext h⟩
  | lv i => exact q
  | exc k => exact q
theorem ValL.ext {ww : World} {ex ex' : Addr → Prop} (h : Ext H ex H ex') : ∀ {rs : List Mp.R} {vs : List V}, ValL ww K H ex σ rs vs → ValL ww K H ex' σ rs vs
  | [], _, q => q
  | r :: rs, _, ⟨v, t, e, q1, q2⟩ => ⟨v, t, e, q1.ext h, ValL.ext h q2⟩
/-- answers to be kept in a container -/
theorem toUs_ok : ∀ {rs : List R} {vs : List V} {ρ : Rho}, Rep ca K L (Or2 Z (Hds rs vs)) σ H ρ G → ValL ca.w K H (Or2 (fp σ ρ G) (Or2 Z (Hds rs vs))) σ rs vs → Apart rs vs → (∀ p, Hds rs vs p → ¬ Z p) →
    ∀ {K0 : List U → Rho → Prop}, toUs rs ρ K0 → ∃ us ρ', K0 us ρ' ∧ Rep ca K L Z σ H ρ' G ∧ RepUs K H (Or2 (fp σ ρ' G) Z) us vs ∧ ∀ a, fp σ ρ' G a → fp σ ρ G a
  | [], vs, ρ, R, q, _, _, K0, h => by
    have q' : vs = [] := q
    subst q'
    exact ⟨[], ρ, h, R.less fun a => .inl, by simp [RepUs], fun _ z => z⟩
  | r :: rs, vs, ρ, R, q, ap, nz, K0, h => by
    obtain ⟨v, t, e, q1, q2⟩ := q
    subst e
    have step : ∀ (x : U) (ρ1 : Rho), toUs rs ρ1 (fun vs ρ2 => K0 (x :: vs) ρ2) → Rep ca K L (Or2 Z (Hds rs t)) σ H ρ1 G → RepU K H (Or2 (fp σ ρ1 G) (Or2 Z (Hds rs t))) x v → (∀ a, fp σ ρ1 G a → fp σ ρ G a) →
        ∃ us ρ', K0 us ρ' ∧ Rep ca K L Z σ H ρ' G ∧ RepUs K H (Or2 (fp σ ρ' G) Z) us (v :: t) ∧ ∀ a, fp σ ρ' G a → fp σ ρ G a := fun x ρ1 hk R1 qx sub => by
      have q2' : ValL ca.w K H (Or2 (fp σ ρ1 G) (Or2 Z (Hds rs t))) σ rs t := by
        have hx : Ext H (Or2 (fp σ ρ G) (Or2 Z (Or2 (Hd r v) (Hds rs t)))) H (Or2 (fp σ ρ1 G) (Or2 Z (Hds rs t))) := Ext.sub fun a z => z.elim (fun z => .inl (sub a z)) fun z => .inr (z.elim .inl fun z => .inr (.inr z))
        exact q2.ext hx
      obtain ⟨us, ρ', k, R', q', sub'⟩ := toUs_ok (K0 := fun vs ρ2 => K0 (x :: vs) ρ2) R1 q2' ap.2 (fun p z => nz p (.inr z)) hk
      refine ⟨x :: us, ρ', k, R', ?_, fun a z => sub a (sub' a z)⟩
      simp only [RepUs]
      exact ⟨v, t, rfl, RepU.ext (Ext.sub fun a z => z.elim (fun z => .inl (sub' a z)) fun z => .inr (.inl z)) x qx, q'⟩
    have less : ∀ a, Or2 Z (Hds rs t) a → Or2 Z (Hds (r :: rs) (v :: t)) a := fun a z => z.elim .inl fun z => .inr (.inr z)
    cases r with
    | u x => exact step x ρ h (R.less less) (RepU.ext (Ext.sub fun a z => z.elim .inl fun z => .inr (less a z)) x q1) fun _ z => z
    | tmp x =>
      obtain ⟨p, o, e, e2, q⟩ := q1
      subst e
      refine step x ρ h (R.less less) (repU_ofC e2 (fun z => ?_) (q.ext (Ext.sub fun a z => z.elim .inl fun z => .inr (less a z)))) fun _ z => z
      rcases z with z | z
      · exact (R.zd p (.inr (.inl rfl))).1 z
      · rcases z with z | z
        · exact nz p (.inl rfl) z
        · exact ap.1 p rfl z
    | lv i =>
      have h' : toU (.lv i) ρ fun v ρ1 => toUs rs ρ1 fun vs ρ2 => K0 (v :: vs) ρ2 := h
      unfold toU at h'
      simp only at h'
      cases hs : ρ[i]? with
      | none => rw [hs] at h'; exact h'.elim
      | some os =>
        rw [hs] at h'
        cases os with
        | none => exact h'.elim
        | some sv =>
          cases sv with
          | own x =>
            have h2 := (setK_iff.mp h').2
            obtain ⟨R1, q3, sub⟩ := (R.less less).freeze hs q1
            exact step x _ h2 R1 q3 sub
          | u x => exact h'.elim
          | fz t x => exact h'.elim
          | exc k => exact h'.elim
    | exc k => exact h.elim
theorem e_tup {es : Es} {el : List Expr} {k : Nat} (ga : PA X el (tA c Γ X es)) : PE X (.Tuple el k pos) (tE c Γ X (.tup es)) := by
  refine PE.imp (pe_tup ga) fun σ H Q ⟨L, Z, ρ, G, Xm, Qm, R, hL, w, tk, en⟩ => ?_
  simp only [wpE] at w
  refine ⟨L, Z, ρ, G, Xm, _, R, hL, w, tk, fun rs ρ1 G1 vs H1 hx R1 q1 ap nw w1 => ?_⟩
  obtain ⟨us, ρ2, ⟨hl, k2⟩, R2, q2, sub⟩ := toUs_ok (K0 := fun vs ρ2 => vs.length ≤ sizeLine ∧ Qm (.u (.tup vs)) ρ2 G1) R1 q1 ap (fun p z => (nw p z).2) w1
  have e := q2.length
  refine ⟨by omega, fun p hp => ?_⟩
  have hk : ∀ a o, H1 a = some o → upd H1 p (.tup vs) a = some o := fun a o e => by
    rw [upd_ne (ne_of_none e hp)]; exact e
  have np : ¬ Or2 (fp σ ρ2 G1) Z p := fun z => by
    rcases z with z | z
    · obtain ⟨o, e, _⟩ := R2.mut z
      rw [hp] at e; cases e
    · obtain ⟨_, o, e⟩ := R2.zd _ z
      rw [hp] at e; cases e
  refine en.ofU (R2.heapExt hk) (fun _ z => z) (fun a o e n => ⟨hk a o (hx a o e n).1, fun z => (hx a o e n).2 (sub a z)⟩) (u := .tup us) ?_ k2
  simp only [RepU]
  exact ⟨p, vs, rfl, .inl ⟨.inl upd_same, np⟩, RepUs.ext (fun a o e n => ⟨hk a o e, n⟩) _ q2⟩
theorem e_lst {es : Es} {el : List Expr} (ga : PA X el (tA c Γ X es)) : PE X (.List el pos) (tE c Γ X (.lst es)) := by
  refine PE.imp (pe_lst ga) fun σ H Q ⟨L, Z, ρ, G, Xm, Qm, R, hL, w, tk, en⟩ => ?_
  simp only [wpE] at w
  refine ⟨L, Z, ρ, G, Xm, _, R, hL, w, tk, fun rs ρ1 G1 vs H1 hx R1 q1 ap nw w1 => ?_⟩
  obtain ⟨us, ρ2, ⟨hl, k2⟩, R2, q2, sub⟩ := toUs_ok (K0 := fun vs ρ2 => vs.length ≤ sizeLine ∧ Qm (.tmp (.lst vs)) ρ2 G1) R1 q1 ap (fun p z => (nw p z).2) w1
  have e := q2.length
  refine ⟨by omega, fun p hp => ?_⟩
  exact en.new R2 (fun _ z => z) (fun a o e n => ⟨(hx a o e n).1, fun z => (hx a o e n).2 (sub a z)⟩) hp (u := .lst us) ⟨vs, rfl, q2⟩ k2
/-- a call's promise: any small call that the small program lets by -/
noncomputable def spN (c : Cx0) (Γ : CalF) (X0 : PySem.W.Frag) (i : Nat) : Sp := fun vs H Q E => ∃ L Z svs G Xm Qm, Rep c.ca X0 L Z (vs.map some) H (svs.map some) G ∧ (∀ a, L a → Z a) ∧ Γ i svs G Xm Qm ∧
  (∀ r G' v H', Ext H (fp (vs.map some) (svs.map some) G) H' (fp [] [] G') → RepR c.ca X0 L Z [] H (fp (vs.map some) (svs.map some) G) H' [] G' r v → Qm r G' → Q v H') ∧
  (∀ k as G' cls d H', Ext H (fp (vs.map some) (svs.map some) G) H' (fp [] [] G') → RepX c X0 H' (Or2 (fp [] [] G') Z) k as cls d → Rep c.ca X0 L Z [] H' [] G' → Xm k as G' → E cls d H')
/-- the addresses that the slots alone have -/
noncomputable def OW (σ : L2.St) (ρ : Rho) : Addr → Prop := fun a => ∃ (i : Nat) (u : U), ρ[i]? = some (some (.own u)) ∧ σ[i]? = some (some (.ref a))
theorem newback {H0 H : Hp} {f0 f : Addr → Prop} {p : Addr} (h : Ext H0 f0 H f) (n : H p = none ∨ f p) : H0 p = none ∨ f0 p := by
  cases e : H0 p with
  | none => exact .inl rfl
  | some o =>
    by_cases ff : f0 p
    · exact .inr ff
    · obtain ⟨h1, h2⟩ := h p o e ff
      rcases n with k | k
      · rw [h1] at k; cases k
      · exact absurd k h2
/-- how an answer is handed on -/
noncomputable def SvR (ρ : Rho) (r : Mp.R) (v : V) (sv : SV) : Prop := match r with
  | .u x => sv = .u x
  | .tmp x => sv = .own x
  | .lv i => ∃ t c, v = .ref t ∧ sv = .fz t c ∧ (ρ[i]? = some (some (.own c)) ∨ ρ[i]? = some (some (.fz t c)))
  | .exc _ => False
theorem toSs_out (R : Rep ca K L Z σ H ρ G) : ∀ {rs : List Mp.R} {vs : List V}, ValL ca.w K H ex σ rs vs → ∀ {K0 : List SV → Prop}, toSs rs ρ K0 → ∃ svs, K0 svs ∧ svs.length = rs.length ∧ vs.length = rs.length ∧ ∀ (j : Nat) (r : Mp.R), rs[j]? = some r → ∃ v sv, vs[j]? = some v ∧ svs[j]? = some sv ∧ Val ca.w K H ex σ r v ∧ SvR ρ r v sv
  | [], vs, q, K0, h => by
    have q' : vs = [] := q
    subst q'
    exact ⟨[], h, rfl, rfl, fun j r e => by simp at e⟩
  | r :: rs, vs, q, K0, h => by
    obtain ⟨v, t, e, q1, q2⟩ := q
    subst e
    have step : ∀ sv, toSs rs ρ (fun vs => K0 (sv :: vs)) → SvR ρ r v sv → ∃ svs, K0 svs ∧ svs.length = (r :: rs).length ∧ (v :: t).length = (r :: rs).length ∧ ∀ (j : Nat) (r' : Mp.R), (r :: rs)[j]? = some r' → ∃ v' sv, (v :: t)[j]? = some v' ∧ svs[j]? = some sv ∧ Val ca.w K H ex σ r' v' ∧ SvR ρ r' v' sv := fun sv hk hr => by
      obtain ⟨svs, k, l1, l2, hj⟩ := toSs_out R q2 (K0 := fun vs => K0 (sv :: vs)) hk
      refine ⟨sv :: svs, k, by simp [l1], by simp [l2], fun j r' e => ?_⟩
      cases j with
      | zero =>
        simp at e
        subst e
        exact ⟨v, sv, by simp, by simp, q1, hr⟩
      | succ j =>
        obtain ⟨v', sv', e1, e2, e3, e4⟩ := hj j r' (by simpa using e)
        exact ⟨v', sv', by simpa using e1, by simpa using e2, e3, e4⟩
    cases r with
    | u x => exact step (.u x) h rfl
    | tmp x => exact step (.own x) h rfl
    | exc k => exact h.elim
    | lv i =>
      have h' : toS (.lv i) ρ fun v => toSs rs ρ fun vs => K0 (v :: vs) := h
      unfold toS at h'
      simp only at h'
      have q1' : σ[i]? = some (some v) := q1
      cases hs : ρ[i]? with
      | none => rw [hs] at h'; exact h'.elim
      | some os =>
        rw [hs] at h'
        cases os with
        | none => exact h'.elim
        | some sv =>
          obtain ⟨w, e1, q3⟩ := R.slot i sv hs
          rw [q1'] at e1
          cases e1
          cases sv with
          | own x =>
            obtain ⟨p, o, e2, _⟩ := q3
            exact step (.fz p x) (h' p) ⟨p, x, e2, rfl, .inl hs⟩
          | fz t' x => exact step (.fz t' x) h' ⟨t', x, q3.1, rfl, .inr hs⟩
          | u x => exact h'.elim
          | exc k => exact h'.elim
theorem hds_ix : ∀ {rs : List Mp.R} {vs : List V} {a : Addr}, Hds rs vs a → ∃ (j : Nat) (u : U), rs[j]? = some (.tmp u) ∧ vs[j]? = some (.ref a)
  | [], _, _, h => h.elim
  | _ :: _, [], _, h => h.elim
  | r :: rs, v :: vs, a, h => by
    rcases h with h | h
    · obtain ⟨u, e1, e2⟩ := nHd r v a h
      exact ⟨0, u, by simp [e1], by simp [e2]⟩
    · obtain ⟨j, u, e1, e2⟩ := hds_ix h
      exact ⟨j + 1, u, by simpa using e1, by simpa using e2⟩
theorem ix_hds : ∀ {rs : List Mp.R} {vs : List V} {a : Addr} {j : Nat} {u : U}, rs[j]? = some (.tmp u) → vs[j]? = some (.ref a) → Hds rs vs a
  | [], _, _, _, _, h, _ => by simp at h
  | _ :: _, [], _, _, _, _, h => by simp at h
  | r :: rs, v :: vs, a, 0, u, h1, h2 => by
    simp at h1 h2
    subst h1 h2
    exact .inl rfl
  | r :: rs, v :: vs, a, j + 1, u, h1, h2 => .inr (ix_hds (j := j) (u := u) (by simpa using h1) (by simpa using h2))
theorem apart_ix : ∀ {rs : List Mp.R} {vs : List V} {a : Addr} {i j : Nat} {u w : U}, Apart rs vs → rs[i]? = some (.tmp u) → rs[j]? = some (.tmp w) → vs[i]? = some (.ref a) → vs[j]? = some (.ref a) → i = j
  | [], _, _, _, _, _, _, _, h, _, _, _ => by simp at h
  | _ :: _, [], _, _, _, _, _, _, _, _, h, _ => by simp at h
  | r :: rs, v :: vs, a, 0, 0, u, w, _, _, _, _, _ => rfl
  | r :: rs, v :: vs, a, 0, j + 1, u, w, ap, h1, h2, h3, h4 => by
    simp at h1 h3
    subst h1 h3
    exact absurd (ix_hds (j := j) (by simpa using h2) (by simpa using h4)) (ap.1 a rfl)
  | r :: rs, v :: vs, a, i + 1, 0, u, w, ap, h1, h2, h3, h4 => by
    simp at h2 h4
    subst h2 h4
    exact absurd (ix_hds (j := i) (by simpa using h1) (by simpa using h3)) (ap.1 a rfl)
  | r :: rs, v :: vs, a, i + 1, j + 1, u, w, ap, h1, h2, h3, h4 => by
    rw [apart_ix (i := i) (j := j) ap.2 (by simpa using h1) (by simpa using h2) (by simpa using h3) (by simpa using h4)]
theorem mapSome {α : Type} {l : List α} {i : Nat} {x : α} (h : (l.map some)[i]? = some (some x)) : l[i]? = some x := by
  rw [List.getElem?_map] at h
  cases e : l[i]? with
  | none => rw [e] at h; simp at h
  | some y => rw [e] at h; simp at h; rw [h]
/-- the callee's state at a call -/
theorem callee {rs : List Mp.R} {vs : List V} {K0 : List SV → Prop} (R : Rep ca K L (Or2 Z (Hds rs vs)) σ H ρ G) (hL : ∀ a, L a → Z a) (q : ValL ca.w K H (Or2 (fp σ ρ G) (Or2 Z (Hds rs vs))) σ rs vs) (ap : Apart rs vs) (nz : ∀ p, Hds rs vs p → ¬ Z p)
    (h : toSs rs ρ K0) : ∃ svs, K0 svs ∧ Rep ca K (Or2 L (OW σ ρ)) (Or2 Z (OW σ ρ)) (vs.map some) H (svs.map some) G ∧ ∀ a, fp (vs.map some) (svs.map some) G a ↔ ((∃ o, G a = some o) ∨ Hds rs vs a) := by
  obtain ⟨svs, k, l1, l2, hj⟩ := toSs_out R q h
  have at_ : ∀ {j : Nat} {sv : SV}, svs[j]? = some sv → ∃ r v, rs[j]? = some r ∧ vs[j]? = some v ∧ Val ca.w K H (Or2 (fp σ ρ G) (Or2 Z (Hds rs vs))) σ r v ∧ SvR ρ r v sv := fun {j sv} e => by
    have hl : j < rs.length := by
      obtain ⟨h1, _⟩ := List.getElem?_eq_some_iff.mp e
      omega
    obtain ⟨v, sv', e1, e2, e3, e4⟩ := hj j _ (List.getElem?_eq_getElem hl)
    rw [e] at e2
    cases e2
    exact ⟨_, v, List.getElem?_eq_getElem hl, e1, e3, e4⟩
  have own_ix : ∀ {j : Nat} {u : U}, svs[j]? = some (.own u) → rs[j]? = some (.tmp u) := fun {j u} e => by
    obtain ⟨r, v, e1, e2, e3, e4⟩ := at_ e
    cases r with
    | u x => cases e4
    | tmp x => cases e4; exact e1
    | lv i =>
      obtain ⟨t, c, _, e5, _⟩ := e4
      cases e5
    | exc k => exact e4.elim
  have hfp : ∀ a, fp (vs.map some) (svs.map some) G a ↔ ((∃ o, G a = some o) ∨ Hds rs vs a) := fun a => by
    refine ⟨fun q => q.elim .inl fun ⟨i, u, e1, e2⟩ => .inr (ix_hds (own_ix (mapSome e1)) (mapSome e2)), fun q => q.elim .inl fun q => ?_⟩
    obtain ⟨j, u, e1, e2⟩ := hds_ix q
    obtain ⟨v, sv, e3, e4, _, e5⟩ := hj j _ e1
    rw [e2] at e3
    cases e3
    cases e5
    exact .inr ⟨j, u, by rw [List.getElem?_map, e4]; rfl, by rw [List.getElem?_map, e2]; rfl⟩
  have hG : ∀ a, (∃ o, G a = some o) → fp σ ρ G a := fun a => .inl
  have hO : ∀ a, OW σ ρ a → fp σ ρ G a := fun a => .inr
  have hH : ∀ a, Hds rs vs a → ¬ fp σ ρ G a := fun a z => (R.zd a (.inr z)).1
  have hx : Ext H (Or2 (fp σ ρ G) (Or2 Z (Hds rs vs))) H (Or2 (fp (vs.map some) (svs.map some) G) (Or2 Z (OW σ ρ))) := Ext.sub fun a z => by
    rcases z with z | z
    · rcases (hfp a).mp z with z | z
      · exact .inl (hG a z)
      · exact .inr (.inr z)
    · rcases z with z | z
      · exact .inr (.inl z)
      · exact .inl (hO a z)
  have owG : ∀ a, OW σ ρ a → G a = none := fun a ⟨i, u, e1, e2⟩ => R.ownG i u a e1 e2
  have no0 : ∀ a, OW σ ρ a → ¬ fp (vs.map some) (svs.map some) G a := fun a z q => by
    rcases (hfp a).mp q with ⟨o, e⟩ | q
    · rw [owG a z] at e; cases e
    · exact hH a q (hO a z)
  refine ⟨svs, k, ⟨by rw [List.length_map, List.length_map, l1, l2], fun j sv e => ?_, fun i j u w a h1 h2 h3 h4 => ?_, fun j u a h1 h2 => ?_, fun a o e => ?_, fun a z => ?_⟩, hfp⟩
  · obtain ⟨r, v, e1, e2, e3, e4⟩ := at_ (mapSome e)
    refine ⟨v, by rw [List.getElem?_map, e2]; rfl, ?_⟩
    cases r with
    | u x => cases e4; exact RepU.ext hx x e3
    | tmp x =>
      cases e4
      obtain ⟨p, o, e5, e6, q⟩ := e3
      exact ⟨p, o, e5, e6, q.ext hx⟩
    | exc k => exact e4.elim
    | lv i =>
      obtain ⟨t, x, e5, e6, e7⟩ := e4
      subst e5 e6
      have e3' : σ[i]? = some (some (.ref t)) := e3
      rcases e7 with e7 | e7
      · obtain ⟨w, e8, p, o, e9, e10, q⟩ := R.slot i _ e7
        rw [e3'] at e8
        cases e8
        cases e9
        have ow : OW σ ρ t := ⟨i, x, e7, e3'⟩
        exact ⟨rfl, ⟨no0 t ow, .inr ow⟩, o, .inl e10, q.ext hx⟩
      · obtain ⟨w, e8, e9, ⟨n, l⟩, o, e10, q⟩ := R.slot i _ e7
        rw [e3'] at e8
        cases e8
        refine ⟨rfl, ⟨fun z => ?_, .inl l⟩, o, e10, q.ext hx⟩
        rcases (hfp t).mp z with z | z
        · exact n (hG t z)
        · exact nz t z (hL t l)
  · exact apart_ix ap (own_ix (mapSome h1)) (own_ix (mapSome h2)) (mapSome h3) (mapSome h4)
  · have z := hH a (ix_hds (own_ix (mapSome h1)) (mapSome h2))
    cases e : G a with
    | none => rfl
    | some o => exact absurd (hG a ⟨o, e⟩) z
  · obtain ⟨ho, e1, q⟩ := R.heap a o e
    exact ⟨ho, e1, q.ext hx⟩
  · rcases z with z | z
    · obtain ⟨n, al⟩ := R.zd a (.inl z)
      refine ⟨fun q => ?_, al⟩
      rcases (hfp a).mp q with q | q
      · exact n (hG a q)
      · exact nz a q z
    · refine ⟨no0 a z, ?_⟩
      obtain ⟨i, u, e1, e2⟩ := z
      obtain ⟨w, e3, p, o, e4, e5, _⟩ := R.slot i _ e1
      rw [e2] at e3
      cases e3
      cases e4
      exact ⟨o, e5⟩
/-- the caller's state behind a call -/
theorem caller {rs : List Mp.R} {vs : List V} {svs : List SV} {N : Addr → Prop} (R : Rep ca K L (Or2 Z (Hds rs vs)) σ H ρ G) (hL : ∀ a, L a → Z a) (nz : ∀ p, Hds rs vs p → ¬ Z p) (hfp : ∀ a, fp (vs.map some) (svs.map some) G a ↔ ((∃ o, G a = some o) ∨ Hds rs vs a))
    (hx : Ext H (fp (vs.map some) (svs.map some) G) H1 (fp [] [] G1)) (R1 : Rep ca K (Or2 L (OW σ ρ)) (Or2 (Or2 Z (OW σ ρ)) N) [] H1 [] G1) (hN : ∀ p, N p → (H p = none ∨ fp (vs.map some) (svs.map some) G p) ∧ ¬ Or2 Z (OW σ ρ) p) :
    Rep ca K L (Or2 Z N) σ H1 ρ G1 ∧ (∀ a, Or2 (fp [] [] G1) (Or2 (Or2 Z (OW σ ρ)) N) a ↔ Or2 (fp σ ρ G1) (Or2 Z N) a) ∧ ∀ a, ¬ Hds rs vs a → ∀ o, H a = some o → ¬ fp σ ρ G a → H1 a = some o ∧ ¬ fp σ ρ G1 a := by
  have hG1 : ∀ a, fp [] [] G1 a ↔ ∃ o, G1 a = some o := fun a => ⟨fun q => q.elim id fun ⟨i, u, e, _⟩ => by simp at e, .inl⟩
  have hset : ∀ a, Or2 (fp [] [] G1) (Or2 (Or2 Z (OW σ ρ)) N) a ↔ Or2 (fp σ ρ G1) (Or2 Z N) a := fun a => by
    constructor
    · intro q
      rcases q with q | q
      · exact .inl (.inl ((hG1 a).mp q))
      · rcases q with q | q
        · rcases q with q | q
          · exact .inr (.inl q)
          · exact .inl (.inr q)
        · exact .inr (.inr q)
    · intro q
      rcases q with q | q
      · rcases q with q | q
        · exact .inl ((hG1 a).mpr q)
        · exact .inr (.inl (.inr q))
      · rcases q with q | q
        · exact .inr (.inl (.inl q))
        · exact .inr (.inr q)
  have hH : ∀ a, Hds rs vs a → ¬ fp σ ρ G a := fun a z => (R.zd a (.inr z)).1
  have keep : ∀ a, ¬ Hds rs vs a → ∀ o, H a = some o → ¬ (∃ o, G a = some o) → H1 a = some o ∧ ¬ ∃ o, G1 a = some o := fun a nh o e ng => by
    obtain ⟨h1, h2⟩ := hx a o e fun q => ((hfp a).mp q).elim ng nh
    exact ⟨h1, fun q => h2 ((hG1 a).mpr q)⟩
  have owG : ∀ a, OW σ ρ a → ¬ (∃ o, G a = some o) := fun a ⟨i, u, e1, e2⟩ ⟨o, e⟩ => by rw [R.ownG i u a e1 e2] at e; cases e
  have owH : ∀ a, OW σ ρ a → ¬ Hds rs vs a := fun a z q => hH a q (.inr z)
  have owA : ∀ a, OW σ ρ a → ∃ o, H a = some o := fun a ⟨i, u, e1, e2⟩ => by
    obtain ⟨w, e3, p, o, e4, e5, _⟩ := R.slot i _ e1
    rw [e2] at e3
    cases e3
    cases e4
    exact ⟨o, e5⟩
  have hxx : Ext H (Or2 (fp σ ρ G) (Or2 Z (Hds rs vs))) H1 (Or2 (fp σ ρ G1) (Or2 Z N)) := fun a o e n => by
    have nh : ¬ Hds rs vs a := fun q => n (.inr (.inr q))
    have ng : ¬ ∃ o, G a = some o := fun q => n (.inl (.inl q))
    obtain ⟨h1, h2⟩ := keep a nh o e ng
    refine ⟨h1, fun q => ?_⟩
    rcases q with q | q
    · rcases q with q | q
      · exact h2 q
      · exact n (.inl (.inr q))
    · rcases q with q | q
      · exact n (.inr (.inl q))
      · rcases (hN a q).1 with k | k
        · rw [e] at k; cases k
        · exact ((hfp a).mp k).elim ng nh
  refine ⟨⟨R.len, fun j sv e => ?_, R.own, fun j u a h1 h2 => ?_, fun a o e => ?_, fun a z => ?_⟩, hset, fun a nh o e n => ?_⟩
  · obtain ⟨v, e1, q⟩ := R.slot j sv e
    refine ⟨v, e1, ?_⟩
    cases sv with
    | u x => exact RepU.ext hxx x q
    | own x =>
      obtain ⟨p, o, e2, e3, q⟩ := q
      subst e2
      have ow : OW σ ρ p := ⟨j, x, e, e1⟩
      exact ⟨p, o, rfl, (keep p (owH p ow) o e3 (owG p ow)).1, q.ext hxx⟩
    | fz t x =>
      obtain ⟨e2, ⟨n, l⟩, o, e3, q⟩ := q
      have nh : ¬ Hds rs vs t := fun z => nz t z (hL t l)
      rcases e3 with e3 | ⟨od, e3⟩
      · obtain ⟨h1, h2⟩ := keep t nh o e3 fun z => n (.inl z)
        exact ⟨e2, ⟨fun z => z.elim h2 fun z => n (.inr z), l⟩, o, .inl h1, q.ext hxx⟩
      · obtain ⟨h1, h2⟩ := keep t nh _ e3 fun z => n (.inl z)
        exact ⟨e2, ⟨fun z => z.elim h2 fun z => n (.inr z), l⟩, o, .inr ⟨od, h1⟩, q.ext hxx⟩
    | exc k d => exact RepE.ext hxx q
  · have ow : OW σ ρ a := ⟨j, u, h1, h2⟩
    obtain ⟨o, e⟩ := owA a ow
    cases e1 : G1 a with
    | none => rfl
    | some o1 => exact absurd ⟨o1, e1⟩ (keep a (owH a ow) o e (owG a ow)).2
  · obtain ⟨ho, e1, q⟩ := R1.heap a o e
    exact ⟨ho, e1, q.ext (Ext.sub fun a z => (hset a).mpr z)⟩
  · rcases z with z | z
    · obtain ⟨n, o, e⟩ := R.zd a (.inl z)
      have nh : ¬ Hds rs vs a := fun q => nz a q z
      obtain ⟨h1, h2⟩ := keep a nh o e fun q => n (.inl q)
      exact ⟨fun q => q.elim h2 fun q => n (.inr q), o, h1⟩
    · obtain ⟨n, al⟩ := R1.zd a (.inr z)
      exact ⟨fun q => q.elim (fun q => n ((hG1 a).mpr q)) fun q => (hN a z).2 (.inr q), al⟩
  · obtain ⟨h1, h2⟩ := keep a nh o e fun q => n (.inl q)
    exact ⟨h1, fun q => q.elim h2 fun q => n (.inr q)⟩
end
end Mp
namespace Mp
open PySem PySem.Spec PyProof.Rows L2
theorem ck_plain {K : Ck} {m : E} {e : Expr} (h : ckE K m e = true) : plainX e = true := by
  cases m <;> exact (Bool.and_eq_true_iff.mp h).1
theorem star_cons {e : Expr} {es : List Expr} {env : Env} (h : plainX e = true) : starEach (e :: es) env = (false, eval e env) :: starEach es env := by
  cases e <;> first | rfl | cases h
theorem cks_nostar {K : Ck} {env : Env} {pos : Pos} : ∀ {ms : Es} {es : List Expr}, ckEs K ms es = true → (backTo pos (starEach es env)).any (·.1) = false ∧ (backTo pos (starEach es env)).all (fun x => !x.1) = true
  | .nil, [], _ => ⟨rfl, rfl⟩
  | .nil, _ :: _, h => by cases h
  | .cons _ _, [], h => by cases h
  | .cons m ms, e :: es, h => by
    simp only [ckEs, Bool.and_eq_true] at h
    rw [star_cons (ck_plain h.1)]
    obtain ⟨h1, h2⟩ := cks_nostar (env := env) (pos := pos) h.2
    exact ⟨by show (false || (backTo pos (starEach es env)).any (·.1)) = false; rw [h1]; rfl, by show (true && (backTo pos (starEach es env)).all (fun x => !x.1)) = true; rw [h2]; rfl⟩
theorem plainIx_of {e : Expr} (h : plainX e = true) : PlainIx e := by
  intro o i
  cases e <;> first | rfl | cases h
theorem nomarkX {op : CmpOp} {e : Expr} (h : plainX e = true) : behindInMarks op e = false := by
  cases e <;> first | rfl | cases h
theorem attrBase {o : Expr} {a : Str} {env : Env} {whole : Sem Value} (h : notSup o = true) : attributeBase o a env whole = whole := by
  unfold attributeBase
  split
  · rename_i id p1 p2
    have h' : id ≠ "super" := of_decide_eq_true h
    have h2 : (id != "super") = true := bne_iff_ne.mpr h'
    simp [h2]
  · rfl
/-- calls, and the exception that the suite holds -/
noncomputable abbrev gN (c : Cx0) (n : Nat) : Cal := ⟨callN c.P n, c.cur⟩
noncomputable def bltNames : List Str := ["len", "int", "str", "list", "tuple", "abs", "sum", "all", "any", "min", "max", "sorted", "range", "enumerate", "zip", "reversed", "isinstance", "bool", "dict", "set"]
/-- what an own exception class that is raised must say -/
structure XC (Kf : PySem.W.Frag) (C : Addr) : Prop where
  ex : PySem.W.excIn Kf C [.type "ValueError", .type "Exception", .type "BaseException", .type "object"] "ValueError.__new__" = true
  kp : PySem.W.keepIn Kf (.ref C) = true
  ty : PySem.W.typeIn Kf (.ref C) = some (.type "type")
  ec : ExcC Kf C
/-- an own exception class with one field -/
noncomputable def X1 (K : PySem.W.Frag) (mg : Str → Option Value) (C : Addr) (x f : Str) : Prop := ∃ qn fI, (f = "number" ∧ PySem.LowX_number.LowTxt x qn K mg C fI) ∨ (f = "name" ∧ PySem.LowX_name.LowTxt x qn K mg C fI) ∨ (f = "path" ∧ PySem.LowX_path.LowTxt x qn K mg C fI)
/-- what a dict of the module tells -/
noncomputable def KdR (Kf : PySem.W.Frag) (a : Addr) (l : List (List Nat × U)) : Prop :=
  (∀ s v, l.lookup s = some v → ∃ u w, PySem.W.nsIn Kf a ⟨s.toArray⟩ = some (some u) ∧ RelV w u ∧ ∀ H ex, RepU Kf H ex v w) ∧ ∀ s, l.lookup s = none → PySem.W.nsIn Kf a ⟨s.toArray⟩ = some none
structure Ctx (c : Cx0) (n : Nat) (X : Cx) (K : Ck) : Prop where
  nm : X.N = K.N
  nd : X.N.Nodup
  ww : c.ca.w = X.w
  calm : K.hot = false → X.calm = true
  room : K.hot = false → Room (2 * n + 1) X.A
  unt : X.A.units + 64 < cLine
  cold : K.hot = false → c.cur = none
  frm : K.blk = none → X.stack = X.env :: X.outer ∧ X.env.frame = some X.env.locals
  scope : X.env.scope = K.sc
  sto : ∀ i x, K.sto i x = true → X.N[i]? = some x ∧ Loc X.env.scope x ∧ (X.fn x = true ∨ X.env.scope.names.lookup x = some .local)
  own : PassesOwn (model X.prog X.w) X.A X.env X.xe
  blt : ∀ x ∈ bltNames, X.mg x = none
  fns : ∀ f x, K.fnm.lookup f = some x → ∃ fa fd ps, X.mg x = some (.ref fa) ∧ PySem.W.keepIn X.K (.ref fa) = true ∧ Binds X.K fd ps [] ∧
    FnOk X.prog X.w X.K X.mg X.base (L2.CX X.prog X.w) (2 * n) fa fd ps (spN c (callN c.P n) X.K f)
  rai : ∀ k x, K.xnm.lookup k = some x → c.xs k = true ∧ X.mg x = some (.ref (c.ca k)) ∧ XC X.K (c.ca k)
  xcl : ∀ k, c.xs k = true → ExcC X.K (c.ca k)
  xts : ∀ j y, K.cnm.lookup j = some y → ∃ (cw : V) (cv : Value), (X.mg y = some cv ∨ (X.mg y = none ∧ bootBuiltins y = some cv)) ∧ RelV cw cv ∧ (∀ u, RelV cw u → u = cv) ∧ ∀ k, c.xs k = true → PySem.W.exmOne X.K (.ref (c.ca k)) cv = some (c.P.sup k j) ∧ PySem.W.kitOne X.K (.ref (c.ca k)) cv = some (c.P.sup k j)
  exn : ∀ a d k as, c.cur = some (a, d, k, as) → c.xs k = true ∧ ∃ (X0 : Cx) (oe : Obj) (pn : List (Addr × Obj)), X = X0.suite a ((a, oe) :: pn) ∧ Zc (.ref (c.ca k)) d oe ∧ ∃ vs, oe.data = .fields vs
  fdn : ∀ f x, K.fdn.lookup f = some x → c.ca.fn f = x
  fdc : c.P.fdc = c.ca.fd
  rai1 : ∀ k x, K.xn1.lookup k = some x → c.xs k = true ∧ X1 X.K X.mg (c.ca k) x (c.P.xfs k)
  mth : ∀ f k m, K.mth.lookup f = some (k, m) → Cls X.K (c.ca k) ∧ ∃ fa fd ps, Meth X.K (c.ca k) m fa ∧ Binds X.K fd ps [] ∧
    FnOk X.prog X.w X.K X.mg X.base (L2.CX X.prog X.w) (2 * n) fa fd ps (spN c (callN c.P n) X.K f)
  mks : ∀ f k x, K.mks.lookup f = some (k, x) → X.mg x = some (.ref (c.ca k)) ∧ FdOk c.ca.ca c.ca.fn c.ca.fd X.K k ∧ ∃ fa fd ps, Mk X.K (c.ca k) fa ∧ Binds X.K fd ps [] ∧
    FnOk X.prog X.w X.K X.mg X.base (L2.CX X.prog X.w) (2 * n) fa fd ps (spN c (callN c.P n) X.K f)
  xfd : ∀ k f, c.xs k = true → c.P.xfd k = some f → c.P.xfs k = c.ca.fn f ∧ XfC X.K (c.ca k) ∧ PySem.W.findIn X.K (.ref (c.ca k)) (c.ca.fn f) = some none
  kdc : ∀ d x, K.kdn.lookup d = some x → ∃ a es n, X.mg x = some (.ref a) ∧ L2.KDict X.K X.w a es n ∧ KdR X.K a (c.P.kds d)
  cst : ∀ x v, (x, v) ∈ K.cst → ∃ w u, X.mg x = some u ∧ RelV w u ∧ ∀ H ex, RepU X.K H ex v w
section
variable {c : Cx0} {n : Nat} {X : Cx} {K : Ck} {L Z Z' : Addr → Prop} {σ : L2.St} {H H1 H2 : Hp} {ρ ρ1 ρ2 : Rho} {G G1 G2 : Hh} {f ex : Addr → Prop} {x y v : V} {u w : U} {Qm : Kc} {Q : VK} {a b d : E} {e1 e2 e3 : Expr} {pos p2 : Pos} {r : R} {ca : Cs}
theorem hot_no (h : (!K.hot) = true) : K.hot = false := by simpa using h
theorem hot_or {m : Mt} (h : (!K.hot || decide (m = .append)) = true) : K.hot = false ∨ m = .append := by simpa using h
theorem okNm_out {x : Str} (h : okNm x = true) : (x == ("__debug__" : Str)) = false ∧ (x == ("__classdict__" : Str)) = false ∧ x ≠ ("__name__" : Str) := by
  unfold okNm at h
  simp only [Bool.and_eq_true, decide_eq_true_eq] at h
  exact ⟨beq_eq_false_iff_ne.mpr h.1.1, beq_eq_false_iff_ne.mpr h.1.2, h.2⟩
theorem vis_of {sc : Scope} {x : Str} (h : visB sc x = true) : Vis sc x := by
  unfold visB at h
  unfold Vis
  split at h <;> simp_all
theorem gl_of (C : Ctx c n X K) {x : Str} (h : K.glob x = true) : Gl X x ∧ (x == ("__debug__" : Str)) = false ∧ x ≠ ("__name__" : Str) := by
  unfold Ck.glob at h
  simp only [Bool.and_eq_true] at h
  obtain ⟨h1, _, h2⟩ := okNm_out h.2
  refine ⟨?_, h1, h2⟩
  have h := h.1
  unfold glB at h
  show X.env.scope.names.lookup x = some .globalImplicit
  rw [C.scope]
  split at h
  · assumption
  · cases h
theorem c_loc (C : Ctx c n X K) {Γ : Cal} {i : Nat} {x : Str} {pos : Pos} (h : K.loc i x = true) : PE X (.Name x pos) (tE c Γ X (.loc i)) := by
  unfold Ck.loc at h
  simp only [Bool.and_eq_true, decide_eq_true_eq] at h
  obtain ⟨h1, h2, _⟩ := okNm_out h.2
  exact e_loc (pe_var (by rw [C.nm]; exact h.1.1) (by rw [C.scope]; exact vis_of h.1.2) h1 h2)
theorem c_frz (C : Ctx c n X K) {Γ : Cal} {i : Nat} {x : Str} {pos : Pos} (h : K.loc i x = true) : PE X (.Name x pos) (tE c Γ X (.frz i)) := by
  refine PE.imp (c_loc (Γ := Γ) C h) fun σ H Q ⟨L, Z, ρ, G, Xm, Qm, R, hL, w, tk, en⟩ => ?_
  refine ⟨L, Z, ρ, G, Xm, fun r ρ1 G1 => toU r ρ1 fun v ρ2 => Qm (.u v) ρ2 G1, R, hL, ?_, tk, fun r ρ1 G1 v H1 hx R1 w1 => ?_⟩
  · simp only [wpE] at w ⊢
    cases e : ρ[i]? with
    | none => rw [e] at w; exact w.elim
    | some o =>
      rw [e] at w
      cases o with
      | none => exact w.elim
      | some sv =>
        cases sv with
        | u v => exact w
        | own v =>
          simp only [toU, e]
          exact w
        | fz t v => exact w.elim
        | exc a d => exact w.elim
  · have e : Hds [r] [v] = Hd r v := or2_false
    obtain ⟨us, ρ2, k2, R2, q2, sub⟩ := toUs_ok (rs := [r]) (vs := [v]) (K0 := fun vs ρ2 => match vs with
      | [u] => Qm (.u u) ρ2 G1
      | _ => False) (by rw [e]; exact R1.rep) (by rw [e]; exact ⟨v, [], rfl, R1.val, rfl⟩) ⟨fun a _ z => z.elim, trivial⟩ (fun p z => (R1.new p (by rwa [e] at z)).2) w1
    match us, k2, q2 with
    | [u], k2, q2 =>
      simp only [RepUs] at q2
      obtain ⟨v', t, e2, q2, _⟩ := q2
      cases e2
      exact en.ofU R2 (fun _ z => z) (fun a o e n => ⟨(hx a o e n).1, fun z => (hx a o e n).2 (sub a z)⟩) q2 k2
theorem c_cst (C : Ctx c n X K) {Γ : Cal} {x : Str} {v : U} {pos : Pos} (h : K.glob x = true) (hc : (x, v) ∈ K.cst) : PE X (.Name x pos) (tE c Γ X (.cst v)) := by
  obtain ⟨w, u, h1, h2, h3⟩ := C.cst x v hc
  obtain ⟨g1, g2, _⟩ := gl_of C h
  exact e_lit (pe_glob g1 h1 h2 g2) (u := v) (fun _ _ _ _ w => by simpa only [wpE] using w) h3
theorem c_kix (C : Ctx c n X K) {Γ : Cal} {d : Nat} {x : Str} {b : E} {e : Expr} {p1 pos : Pos} (hg : K.glob x = true) (hx : K.kdn.lookup d = some x) (hp : plainX e = true) (hb : PE X e (tE c Γ X b)) : PE X (.Subscript (.Name x p1) e pos) (tE c Γ X (.kix d b)) := by
  obtain ⟨a, es, n', hm, D, kr⟩ := C.kdc d x hx
  obtain ⟨g1, g2, _⟩ := gl_of C hg
  refine PE.imp (pe_ix ix_kdict (pe_glob g1 hm (v := .ref a) rfl g2) hb (plainIx_of hp)) fun σ H Q ⟨L, Z, ρ, G, Xm, Qm, R, hL, w, tk, en⟩ => ?_
  simp only [wpE] at w
  show tE c Γ X b σ H fun y H2 => rIxD X.K X.w (.ref a) y H2 Q
  refine one R hL w tk fun ra ρ2 G2 y H2 Z' hz _ e2 R2 q w2 => ?_
  obtain ⟨u, e, w2⟩ := vwK_out w2
  have hv := vw_ok R2 q e
  cases u <;> try exact w2.elim
  obtain ⟨v, hk, w2⟩ := optK_out w2
  simp only [Vw, RepU] at hv
  obtain ⟨u0, w0, k1, k2, k3⟩ := kr.1 _ _ hk
  exact ⟨a, _, w0, rfl, hv.1, ⟨es, n', u0, D.at_, D.lit, k1, k2⟩, en.ofU R2 hz e2 (k3 _ _) w2⟩
theorem kin_go {d : Nat} {b : E} {neg : Bool} {a : Addr} {Xm : Xc} (kr : KdR X.K a (c.P.kds d)) {Γ : Cal} (R : Rep c.ca X.K L Z σ H ρ G) (hL : ∀ a, L a → Z a) (w : wpE c.P Γ (.kin d b neg) ρ G Xm Qm) (tk : Tk c X L Z H (fp σ ρ G) Xm) (en : EndB c X L Z σ H (fp σ ρ G) Qm Q) (f : Bool → Bool) (hf : ∀ r : Bool, f r = if neg then !r else r) :
    tE c Γ X b σ H fun y H2 => ∃ (z : Str) (r : Option Value), y = .str z ∧ V.ref a = .ref a ∧ PySem.W.nsIn X.K a z = some r ∧ Q (.bl (f r.isSome)) H2 := by
  simp only [wpE] at w
  refine one R hL w tk fun ra ρ2 G2 y H2 Z' hz _ e2 R2 q w2 => ?_
  obtain ⟨u, e, w2⟩ := vwK_out w2
  have hv := vw_ok R2 q e
  cases u <;> try exact w2.elim
  rename_i s
  simp only [Vw, RepU] at hv
  replace w2 : Qm (.u (.bl (if neg = true then !((c.P.kds d).lookup s).isSome else ((c.P.kds d).lookup s).isSome))) ρ2 G2 := w2
  cases hk : (c.P.kds d).lookup s with
  | none =>
    rw [hk] at w2
    refine ⟨_, none, hv.1, rfl, kr.2 _ hk, ?_⟩
    rw [hf]
    exact en _ _ _ _ _ hz e2 R2 w2
  | some v =>
    obtain ⟨u0, w0, k1, _⟩ := kr.1 _ _ hk
    rw [hk] at w2
    refine ⟨_, some u0, hv.1, rfl, k1, ?_⟩
    rw [hf]
    exact en _ _ _ _ _ hz e2 R2 w2
theorem c_kin (C : Ctx c n X K) {Γ : Cal} {d : Nat} {x : Str} {b : E} {neg : Bool} {e : Expr} {p1 pos : Pos} (hg : K.glob x = true) (hx : K.kdn.lookup d = some x) (hb : PE X e (tE c Γ X b)) : PE X (.Compare e [if neg then .NotIn else .In] [.Name x p1] pos) (tE c Γ X (.kin d b neg)) := by
  obtain ⟨a, es, n', hm, D, kr⟩ := C.kdc d x hx
  obtain ⟨g1, g2, _⟩ := gl_of C hg
  cases neg with
  | false => exact PE.imp (pe_cmpR (op_in_kd D) hb (pe_glob g1 hm (v := .ref a) rfl g2) rfl) fun σ H Q ⟨L, Z, ρ, G, Xm, Qm, R, hL, w, tk, en⟩ => kin_go kr R hL w tk (EndE.toB en) id fun _ => rfl
  | true => exact PE.imp (pe_cmpR (op_notIn_kd D) hb (pe_glob g1 hm (v := .ref a) rfl g2) rfl) fun σ H Q ⟨L, Z, ρ, G, Xm, Qm, R, hL, w, tk, en⟩ => kin_go kr R hL w tk (EndE.toB en) (fun r => !r) fun _ => rfl
/-- a call: what is asked of the def -/
theorem call_sp {fi : Nat} {rs : List Mp.R} {vs : List V} {Xm : Xc} {H0 : Hp} {f0 : Addr → Prop}
    (R : Rep c.ca X.K L (Or2 Z (Hds rs vs)) σ H ρ G) (hL : ∀ a, L a → Z a) (q : ValL c.ca.w X.K H (Or2 (fp σ ρ G) (Or2 Z (Hds rs vs))) σ rs vs) (ap : Apart rs vs)
    (nw : ∀ p, Hds rs vs p → (H0 p = none ∨ f0 p) ∧ ¬ Z p) (hx : Ext H0 f0 H (fp σ ρ G)) (en : EndE c X L Z σ H0 f0 Qm Q)
    (w : toSs rs ρ fun svs => callN c.P n fi svs G (fun k as G2 => Xm k as ρ G2) fun r G2 => Qm r ρ G2) :
    spN c (callN c.P n) X.K fi vs H Q (fun cls d H' => ∃ k as ρ' G', RepX c X.K H' (Or2 (fp σ ρ' G') Z) k as cls d ∧ Rep c.ca X.K L Z σ H' ρ' G' ∧ Ext H0 f0 H' (fp σ ρ' G') ∧ Xm k as ρ' G') := by
  obtain ⟨svs, k, Rc, hfp⟩ := callee R hL q ap (fun p z => (nw p z).2) w
  have nz : ∀ p, Hds rs vs p → ¬ Z p := fun p z => (nw p z).2
  have noH : ∀ a, ∀ o, H0 a = some o → ¬ f0 a → ¬ Hds rs vs a := fun a o e n z => by
    rcases (nw a z).1 with k | k
    · rw [e] at k; cases k
    · exact n k
  refine ⟨Or2 L (OW σ ρ), Or2 Z (OW σ ρ), svs, G, _, _, Rc, fun a z => z.elim (fun z => .inl (hL a z)) .inr, k, fun r G' v H' hx1 R1 k1 => ?_, fun ke as G' cls d H' hx1 rx R1 k1 => ?_⟩
  · obtain ⟨R2, hset, keep⟩ := caller R hL nz hfp hx1 R1.rep R1.new
    have hval : Val c.ca.w X.K H' (Or2 (fp σ ρ G') (Or2 Z (Hd r v))) σ r v := by
      have hs : Ext H' (Or2 (fp [] [] G') (Or2 (Or2 Z (OW σ ρ)) (Hd r v))) H' (Or2 (fp σ ρ G') (Or2 Z (Hd r v))) := Ext.sub fun a z => (hset a).mpr z
      have qv := R1.val
      cases r with
      | u x => exact RepU.ext hs x qv
      | tmp x =>
        obtain ⟨p, o, e, e2, q⟩ := qv
        exact ⟨p, o, e, e2, q.ext hs⟩
      | lv i =>
        have qv' : ([] : L2.St)[i]? = some (some v) := qv
        simp at qv'
      | exc k => exact qv
    refine en r ρ G' v H' (fun a o e n => ?_) ⟨R2, hval, fun p z => ?_⟩ k1
    · exact keep a (noH a o e n) o (hx a o e n).1 (hx a o e n).2
    · obtain ⟨n1, n2⟩ := R1.new p z
      refine ⟨?_, fun z => n2 (.inl z)⟩
      rcases n1 with n1 | n1
      · exact newback hx (.inl n1)
      · rcases (hfp p).mp n1 with g | g
        · exact newback hx (.inr (.inl g))
        · exact (nw p g).1
  · obtain ⟨R2, hset, keep⟩ := caller (N := fun _ => False) R hL nz hfp hx1 (by rw [or2_false]; exact R1) fun p z => z.elim
    rw [or2_false] at R2
    refine ⟨ke, as, ρ, G', ?_, R2, ?_, k1⟩
    · obtain ⟨e, rx⟩ := rx
      refine ⟨e, ?_⟩
      have hs : Ext H' (Or2 (fp [] [] G') (Or2 Z (OW σ ρ))) H' (Or2 (fp σ ρ G') Z) := Ext.sub fun a z => by
        have := (hset a).mpr (by rw [or2_false]; exact z)
        rw [or2_false] at this
        exact this
      match as, rx with
      | [], rx => exact rx
      | [x], rx =>
        obtain ⟨dx, v, e1, e2, nx, q⟩ := rx
        exact ⟨dx, v, e1, e2, (hs dx _ e2 nx).2, RepU.ext hs x q⟩
    · intro a o e n
      exact keep a (noH a o e n) o (hx a o e n).1 (hx a o e n).2
/-- the end of a call -/
theorem call_end (C : Ctx c n X K) (hh : K.hot = false) {fi : Nat} {fa : Addr} {fd : FuncData} {ps : List Str} {pins : List (Addr × Obj)} {s : Shared} {rs : List Mp.R} {vs : List V} {us : List Value} {Xm : Xc} {H0 : Hp} {f0 : Addr → Prop}
    (hb : Binds X.K fd ps []) (F : FnOk X.prog X.w X.K X.mg X.base (L2.CX X.prog X.w) (2 * n) fa fd ps (spN c (callN c.P n) X.K fi))
    (I : Inv X pins σ H s) (hu : Vals vs us) (R : Rep c.ca X.K L (Or2 Z (Hds rs vs)) σ H ρ G) (hL : ∀ a, L a → Z a) (q : ValL c.ca.w X.K H (Or2 (fp σ ρ G) (Or2 Z (Hds rs vs))) σ rs vs) (ap : Apart rs vs)
    (nw : ∀ p, Hds rs vs p → (H0 p = none ∨ f0 p) ∧ ¬ Z p) (hx : Ext H0 f0 H (fp σ ρ G)) (tk : Tk c X L Z H0 f0 Xm) (en : EndE c X L Z σ H0 f0 Qm Q)
    (w : toSs rs ρ fun svs => callN c.P n fi svs G (fun k as G2 => Xm k as ρ G2) fun r G2 => Qm r ρ G2) :
    wpAny (model X.prog X.w) X.A (call (.ref fa) us) (EP X pins σ Q) X.xe s := by
  refine run_fnSD (E := fun σ cls d H' => ∃ k as ρ' G', RepX c X.K H' (Or2 (fp σ ρ' G') Z) k as cls d ∧ Rep c.ca X.K L Z σ H' ρ' G' ∧ Ext H0 f0 H' (fp σ ρ' G') ∧ Xm k as ρ' G') (dvs := []) (ds := []) F ((C.room hh).mono (by omega)) hb .nil
    (fun pins H s e s' I cx => tk.2 e s' (XE.of_call I (fun _ _ _ h => h) cx)) I hu ?_
  rw [List.append_nil]
  exact call_sp R hL q ap nw hx en w
theorem c_call (C : Ctx c n X K) (hh : K.hot = false) {fi : Nat} {xn : Str} {es : Es} {el : List Expr} {p : Pos} (hg : K.glob xn = true) (hf : K.fnm.lookup fi = some xn) (hck : ckEs K es el = true) (ga : PA X el (tA c (gN c n) X es)) :
    PE X (.Call (.Name xn p) el [] pos) (tE c (gN c n) X (.call fi es)) := by
  obtain ⟨fa, fd, ps, hm, hk, hb, F⟩ := C.fns fi xn hf
  obtain ⟨g1, g2, _⟩ := gl_of C hg
  refine ⟨fun pins s σ H Q I h => ?_⟩
  obtain ⟨L, Z, ρ, G, Xm, Qm, R, hL, w, tk, en⟩ := h
  simp only [wpE] at w
  have args : tA c (gN c n) X es σ H fun vs H1 => ∀ (s1 : Shared) (us : List Value), Inv X pins σ H1 s1 → Vals vs us → wpAny (model X.prog X.w) X.A (call (.ref fa) us) (EP X pins σ Q) X.xe s1 :=
    ⟨L, Z, ρ, G, Xm, _, R, hL, w, tk, fun rs ρ1 G1 vs H1 hx R1 q1 ap nw w1 s1 us I1 hu => by
      exact call_end C hh hb F I1 hu R1 hL q1 ap nw hx tk en w1⟩
  refine wpAny_Call_Name_kw (ld_glob I g1 hm ?_ g2)
  cases el with
  | nil =>
    cases es with
    | cons m ms => cases hck
    | nil =>
      obtain ⟨L, Z, ρ, G, Xm, Qm, R, hL, w, tk, en⟩ := args
      simp only [wpEs] at w
      have e : Hds [] ([] : List V) = fun _ => False := rfl
      exact PySem.W.callWith_K0 I.kIn hk (en [] ρ G [] H (Ext.refl _ _) (by rw [e, or2_false]; exact R) rfl trivial (fun p z => z.elim) w s [] I .nil)
  | cons e el =>
    cases es with
    | nil => cases hck
    | cons m ms =>
      simp only [ckEs, Bool.and_eq_true] at hck
      exact PySem.W.callWith_K (h₀ := X.base) I.ok.mod.kin hk (thn (ga.run pos pins s σ H _ I args) fun us s1 ⟨vs, H1, I1, r, q⟩ => ⟨I1.kIn, q s1 us I1 r⟩) (star_cons (ck_plain hck.1)) (cks_nostar hck.2).1
theorem hds_u {u : U} {v : V} {rs : List Mp.R} {vs : List V} : Hds (.u u :: rs) (v :: vs) = Hds rs vs := by
  funext a
  exact propext ⟨fun z => z.elim False.elim id, .inr⟩
theorem lookF_rep {fn : Nat → Str} (inj : ∀ f g, fn f = fn g → f = g) {Kf : PySem.W.Frag} {f : Nat} {u : U} : ∀ {fs : List (Nat × U)} {gs : List (Str × V)}, RepFs Kf H ex fn fs gs → lookF fs f = some u → (∃ v, gs.lookup (fn f) = some v ∧ RepU Kf H ex u v) ∧ ∃ p ∈ fs, p.1 = f
  | [], gs, _, h => by cases h
  | (g, x) :: fs, gs, r, h => by
    obtain ⟨v, q, e, r1, r2⟩ := r
    subst e
    unfold lookF at h
    rw [List.lookup_cons]
    by_cases e : g = f
    · subst e
      rw [Nat.beq_refl] at h
      cases h
      rw [beq_self_eq_true]
      exact ⟨⟨v, rfl, r1⟩, (g, u), by simp, rfl⟩
    · have hb : Nat.beq g f = false := by
        cases hq : Nat.beq g f with
        | false => rfl
        | true => exact absurd (Nat.eq_of_beq_eq_true hq) e
      rw [hb] at h
      obtain ⟨h1, p, hp, h2⟩ := lookF_rep inj r2 h
      rw [show (fn f == fn g) = false from beq_eq_false_iff_ne.mpr fun z => e (inj _ _ z).symm]
      exact ⟨h1, p, List.mem_cons_of_mem _ hp, h2⟩
theorem putFd_rep {fn : Nat → Str} (inj : ∀ f g, fn f = fn g → f = g) {Kf : PySem.W.Frag} {f : Nat} {u : U} {v : V} (hu : RepU Kf H ex u v) : ∀ {fs : List (Nat × U)} {gs : List (Str × V)}, RepFs Kf H ex fn fs gs → RepFs Kf H ex fn (putFd f u fs) (L2.putF (fn f) v gs)
  | [], gs, r => by
    have r' : gs = [] := r
    subst r'
    exact ⟨v, [], rfl, hu, rfl⟩
  | (g, x) :: fs, gs, r => by
    obtain ⟨w, q, e, r1, r2⟩ := r
    subst e
    unfold putFd L2.putF
    by_cases e : g = f
    · subst e
      rw [Nat.beq_refl, if_pos rfl]
      exact ⟨v, q, rfl, hu, r2⟩
    · have hb : Nat.beq g f = false := by
        cases hq : Nat.beq g f with
        | false => rfl
        | true => exact absurd (Nat.eq_of_beq_eq_true hq) e
      rw [hb, if_neg fun z => e (inj _ _ z)]
      exact ⟨w, _, rfl, r1, putFd_rep inj hu r2⟩
theorem putFd_mem {f : Nat} {u : U} : ∀ {fs : List (Nat × U)} {p : Nat × U}, p ∈ putFd f u fs → p.1 = f ∨ ∃ q ∈ fs, q.1 = p.1
  | [], p, h => by
    simp [putFd] at h
    exact .inl (by rw [h])
  | (g, x) :: fs, p, h => by
    unfold putFd at h
    cases hq : Nat.beq g f with
    | true =>
      rw [hq] at h
      rcases List.mem_cons.mp h with e | h
      · exact .inl (by rw [e]; exact Nat.eq_of_beq_eq_true hq)
      · exact .inr ⟨p, List.mem_cons_of_mem _ h, rfl⟩
    | false =>
      rw [hq] at h
      rcases List.mem_cons.mp h with e | h
      · exact .inr ⟨(g, x), by simp, by rw [e]⟩
      · rcases putFd_mem h with e | ⟨q, hq, e⟩
        · exact .inl e
        · exact .inr ⟨q, List.mem_cons_of_mem _ hq, e⟩
theorem repFs_len {fn : Nat → Str} {Kf : PySem.W.Frag} : ∀ {fs : List (Nat × U)} {gs : List (Str × V)}, RepFs Kf H ex fn fs gs → fs.length = gs.length
  | [], gs, r => by
    have r' : gs = [] := r
    rw [r']; rfl
  | (g, x) :: fs, gs, r => by
    obtain ⟨w, q, e, r1, r2⟩ := r
    rw [e, List.length_cons, List.length_cons, repFs_len r2]
/-- an instance, seen -/
theorem ins_at {p : Addr} {k : Nat} {fs : List (Nat × U)} {Kf : PySem.W.Frag} (R : Rep ca Kf L Z σ H ρ G) (h : G p = some (.ins k fs)) :
    ∃ dx gs, H p = some (.ins (ca k) dx gs) ∧ FdOk ca.ca ca.fn ca.fd Kf k ∧ (∀ q ∈ fs, ca.fd k q.1 = true) ∧ RepFs Kf H (Or2 (fp σ ρ G) Z) ca.fn fs gs := by
  obtain ⟨ho, e, h1, h2, dx, gs, e2, q⟩ := R.heap p _ h
  subst e2
  exact ⟨dx, gs, e, h1, h2, q⟩
theorem c_fld (C : Ctx c n X K) {Γ : Cal} {fi : Nat} {nm : Str} (hf : K.fdn.lookup fi = some nm) (hns : notSup e1 = true) (ga : PE X e1 (tE c Γ X a)) : PE X (.Attribute e1 nm pos) (tE c Γ X (.fld a fi)) := by
  have hn := C.fdn _ _ hf
  subst hn
  refine PE.imp (pe_fld ga (attrBase hns)) fun σ H Q ⟨L, Z, ρ, G, Xm, Qm, R, hL, w, tk, en⟩ => ?_
  simp only [wpE] at w
  refine one R hL w tk fun ra ρ2 G2 x H2 Z' hz ha hx R2 q w2 => ?_
  cases ra <;> try exact w2.elim
  rename_i z
  cases z <;> try exact w2.elim
  rename_i p
  simp only at w2
  cases hg : G2 p with
  | none => rw [hg] at w2; exact w2.elim
  | some o =>
    rw [hg] at w2
    cases o with
    | con u => exact w2.elim
    | ins k fs =>
      obtain ⟨u, eu, w2⟩ := optK_out w2
      obtain ⟨dx, gs, e1, h1, h2, rf⟩ := ins_at R2 hg
      obtain ⟨⟨v, ev, rv⟩, p', hp', ep⟩ := lookF_rep c.ca.inj rf eu
      have q' : x = .ref p := by simpa only [Val, RepU] using q
      refine ⟨p, _, dx, gs, v, q', e1, h1.1, ?_, ev, en.ofU R2 hz hx rv w2⟩
      have := h1.2 _ (h2 p' hp')
      rwa [ep] at this
/-- a new instance is shared -/
theorem Rep.newIns {x dx : Addr} {k : Nat} {Kf : PySem.W.Frag} (R : Rep ca Kf L Z σ H ρ G) (hx : H x = none) (hd : H dx = none) (ne : dx ≠ x) (cl : FdOk ca.ca ca.fn ca.fd Kf k) :
    Rep ca Kf L Z σ (upd (upd H dx (.own x)) x (.ins (ca k) dx [])) ρ (put G x (.ins k [])) ∧ G x = none ∧ (∀ a, fp σ ρ (put G x (.ins k [])) a → fp σ ρ G a ∨ a = x) ∧ ∀ a o, H a = some o → upd (upd H dx (.own x)) x (.ins (ca k) dx []) a = some o := by
  have keep : ∀ a o, H a = some o → upd (upd H dx (.own x)) x (.ins (ca k) dx []) a = some o := fun a o e => by
    rw [upd_ne (ne_of_none e hx), upd_ne (ne_of_none e hd)]
    exact e
  have gx : G x = none := by
    cases e : G x with
    | none => rfl
    | some o =>
      obtain ⟨ho, h, _⟩ := R.heap x o e
      rw [hx] at h; cases h
  have pat : ∀ {a o}, put G x (.ins k []) a = some o → (a = x ∧ o = .ins k []) ∨ G a = some o := fun {a o} h => by
    unfold put at h
    by_cases e : a = x
    · rw [if_pos e] at h
      cases h
      exact .inl ⟨e, rfl⟩
    · rw [if_neg e] at h
      exact .inr h
  have sub : ∀ a, fp σ ρ (put G x (.ins k [])) a → fp σ ρ G a ∨ a = x := fun a h => by
    rcases h with ⟨o, h⟩ | h
    · rcases pat h with ⟨e, _⟩ | h
      · exact .inr e
      · exact .inl (.inl ⟨o, h⟩)
    · exact .inl (.inr h)
  have nx : ∀ a o, H a = some o → a ≠ x := fun a o e => ne_of_none e hx
  have hxt : Ext H (Or2 (fp σ ρ G) Z) (upd (upd H dx (.own x)) x (.ins (ca k) dx [])) (Or2 (fp σ ρ (put G x (.ins k []))) Z) := fun a o e m =>
    ⟨keep a o e, fun z => z.elim (fun z => (sub a z).elim (fun z => m (.inl z)) (nx a o e)) fun z => m (.inr z)⟩
  refine ⟨⟨R.len, fun i sv e => ?_, R.own, fun i u a e1 e2 => ?_, fun a o e => ?_, fun a z => ?_⟩, gx, sub, keep⟩
  · obtain ⟨v, e1, q⟩ := R.slot i sv e
    refine ⟨v, e1, q.ext hxt (fun a o e m => ⟨keep a o e, fun z => (sub a z).elim m (nx a o e)⟩) fun _ _ _ _ o e => keep _ o e⟩
  · have h1 := R.ownG i u a e1 e2
    unfold put
    by_cases e : a = x
    · subst e
      obtain ⟨v, e3, p, o, e4, e5, _⟩ := R.slot i _ e1
      rw [e2] at e3
      cases e3
      cases e4
      rw [hx] at e5; cases e5
    · rw [if_neg e]; exact h1
  · rcases pat e with ⟨e1, e2⟩ | e
    · subst e1 e2
      refine ⟨_, upd_same, cl, ?_, dx, [], rfl, rfl⟩
      intro p hp
      cases hp
    · obtain ⟨ho, h1, q⟩ := R.heap a o e
      exact ⟨ho, keep a ho h1, q.ext hxt⟩
  · obtain ⟨h1, o, h2⟩ := R.zd a z
    exact ⟨fun h => (sub a h).elim h1 (nx a o h2), o, keep a o h2⟩
theorem toSs_imp : ∀ {rs : List Mp.R} {K0 K1 : List SV → Prop}, (∀ l, K0 l → K1 l) → toSs rs ρ K0 → toSs rs ρ K1
  | [], K0, K1, h, q => h [] q
  | r :: rs, K0, K1, h, q => by
    have q' : toS r ρ fun v => toSs rs ρ fun vs => K0 (v :: vs) := q
    show toS r ρ fun v => toSs rs ρ fun vs => K1 (v :: vs)
    have step : ∀ v, (toSs rs ρ fun vs => K0 (v :: vs)) → toSs rs ρ fun vs => K1 (v :: vs) := fun v => toSs_imp fun l => h (v :: l)
    unfold toS at q' ⊢
    split at q'
    · exact step _ q'
    · exact step _ q'
    · split at q'
      · exact fun t => step _ (q' t)
      · exact step _ q'
      · exact q'.elim
    · exact q'.elim
theorem valL_keep {ww : World} {H' : Hp} {ex' : Addr → Prop} (hk : ∀ a o, H a = some o → H' a = some o) (h : Ext H ex H' ex') {Kf : PySem.W.Frag} : ∀ {rs : List Mp.R} {vs : List V}, ValL ww Kf H ex σ rs vs → ValL ww Kf H' ex' σ rs vs
  | [], vs, q => q
  | r :: rs, vs, q => by
    obtain ⟨v, t, e, q1, q2⟩ := q
    refine ⟨v, t, e, ?_, valL_keep hk h q2⟩
    cases r with
    | u x => exact RepU.ext h x q1
    | tmp x =>
      obtain ⟨p, o, e1, e2, q⟩ := q1
      exact ⟨p, o, e1, hk p o e2, q.ext h⟩
    | lv i => exact q1
    | exc k => exact q1
/-- C(..), the exceptions by the state -/
theorem make_run {CX : CXT} {kk : Nat} {Cl fI : Addr} {fd : FuncData} {ps : List Str} {sp : Sp} {E : L2.St → XK} {pins : List (Addr × Obj)} {s : Shared} {us : List Value} {vs : List V} (M : Mk X.K Cl fI) (F : FnOk X.prog X.w X.K X.mg X.base CX kk fI fd ps sp) (rm : Room (kk + 1) X.A) (bd : Binds X.K fd ps [])
    (px : PassesAt CX X σ (E σ)) (I : Inv X pins σ H s) (rv : Vals vs us) (hs : ∀ x dx, H x = none → H dx = none → dx ≠ x → sp (.ref x :: vs) (upd (upd H dx (.own x)) x (.ins Cl dx [])) (fun v H2 => v = .non ∧ Q (.ref x) H2) (E σ)) :
    wpAny (model X.prog X.w) X.A (call (.ref Cl) us) (EP X pins σ Q) X.xe s := by
  have w0 := hs (s.heap.objs.size + 1) s.heap.objs.size (I.hok.fresh (Nat.le_succ _)) (I.hok.fresh (Nat.le_refl _)) (Nat.ne_of_lt (Nat.lt_succ_self _))
  have IM := Inv.made (C := Cl) I
  have rr : Vals (V.ref (s.heap.objs.size + 1) :: vs) (Value.ref (s.heap.objs.size + 1) :: us ++ []) := by
    rw [List.append_nil]
    exact .cons rfl rv
  have ln : (Value.ref (s.heap.objs.size + 1) :: us ++ []).length = ps.length := by rw [← rr.length]; exact F.len _ _ _ _ w0
  have bb := bd _ (Value.ref (s.heap.objs.size + 1) :: us) IM.kIn ln
  refine wpAny_call (make_map (f := fI) I.kIn M.makes M.init (beq_iff_eq.mp M.fn) (codeAny_mono (F.run _ X.stack _ _ ⟨Value.ref (s.heap.objs.size + 1) :: us, []⟩ _ _ _ (E σ) (rm.make Cl us []) (IM.env0.make Cl us []) bb rr w0) fun rs s' hq => ?_))
  match rs, hq with
  | .error e, hq => exact px pins _ _ e s' IM hq
  | .ok (.ret u), hq =>
    obtain ⟨v, H', I3, r3, ev, q3⟩ := IM.after hq
    subst ev
    exact ⟨r3, V.ref (s.heap.objs.size + 1), H', I3, rfl, q3⟩
theorem make_end (C : Ctx c n X K) (hh : K.hot = false) {ki fi : Nat} {fa : Addr} {fd : FuncData} {ps : List Str} {pins : List (Addr × Obj)} {s : Shared} {rs : List Mp.R} {vs : List V} {us : List Value} {Xm : Xc} {H0 : Hp} {f0 : Addr → Prop}
    (M : Mk X.K (c.ca ki) fa) (cl : FdOk c.ca.ca c.ca.fn c.ca.fd X.K ki) (hb : Binds X.K fd ps []) (F : FnOk X.prog X.w X.K X.mg X.base (L2.CX X.prog X.w) (2 * n) fa fd ps (spN c (callN c.P n) X.K fi))
    (I : Inv X pins σ H s) (hu : Vals vs us) (R : Rep c.ca X.K L (Or2 Z (Hds rs vs)) σ H ρ G) (hL : ∀ a, L a → Z a) (q : ValL c.ca.w X.K H (Or2 (fp σ ρ G) (Or2 Z (Hds rs vs))) σ rs vs) (ap : Apart rs vs)
    (nw : ∀ p, Hds rs vs p → (H0 p = none ∨ f0 p) ∧ ¬ Z p) (hx : Ext H0 f0 H (fp σ ρ G)) (tk : Tk c X L Z H0 f0 Xm) (en : EndE c X L Z σ H0 f0 Qm Q)
    (w : toSs rs ρ fun svs => ∀ a, G a = none → callN c.P n fi (.u (.ref a) :: svs) (put G a (.ins ki [])) (fun k as G2 => Xm k as ρ G2) fun r G2 => nonR r ∧ Qm (.u (.ref a)) ρ G2) :
    wpAny (model X.prog X.w) X.A (call (.ref (c.ca ki)) us) (EP X pins σ Q) X.xe s := by
  refine make_run (E := fun σ cls d H' => ∃ k as ρ' G', RepX c X.K H' (Or2 (fp σ ρ' G') Z) k as cls d ∧ Rep c.ca X.K L Z σ H' ρ' G' ∧ Ext H0 f0 H' (fp σ ρ' G') ∧ Xm k as ρ' G') M F (C.room hh) hb
    (fun pins H s e s' I cx => tk.2 e s' (XE.of_call I (fun _ _ _ h => h) cx)) I hu fun x dx h1 h2 h3 => ?_
  obtain ⟨R2, gx, sub, keep⟩ := R.newIns (k := ki) h1 h2 h3 cl
  have nx : ∀ a o, H a = some o → a ≠ x := fun a o e => ne_of_none e h1
  have hx2 : Ext H0 f0 (upd (upd H dx (.own x)) x (.ins (c.ca ki) dx [])) (fp σ ρ (put G x (.ins ki []))) := fun a o e m => by
    obtain ⟨k1, k2⟩ := hx a o e m
    exact ⟨keep a o k1, fun z => (sub a z).elim k2 (nx a o k1)⟩
  have hZ : Ext H (Or2 (fp σ ρ G) (Or2 Z (Hds rs vs))) (upd (upd H dx (.own x)) x (.ins (c.ca ki) dx [])) (Or2 (fp σ ρ (put G x (.ins ki []))) (Or2 Z (Hds rs vs))) := fun a o e m =>
    ⟨keep a o e, fun z => z.elim (fun z => (sub a z).elim (fun z => m (.inl z)) (nx a o e)) fun z => m (.inr z)⟩
  have w1 : toSs rs ρ fun svs => callN c.P n fi (.u (.ref x) :: svs) (put G x (.ins ki [])) (fun k as G2 => Xm k as ρ G2) fun r G2 => nonR r ∧ Qm (.u (.ref x)) ρ G2 :=
    toSs_imp (fun svs h => h x gx) w
  have w2 : toSs (.u (.ref x) :: rs) ρ fun svs => callN c.P n fi svs (put G x (.ins ki [])) (fun k as G2 => Xm k as ρ G2) fun r G2 => nonR r ∧ Qm (.u (.ref x)) ρ G2 := w1
  refine call_sp (rs := .u (.ref x) :: rs) (vs := .ref x :: vs) (Qm := fun r ρ G2 => nonR r ∧ Qm (.u (.ref x)) ρ G2) (by rw [hds_u]; exact R2) hL ?_ ⟨fun a z => z.elim, ap⟩ (by rw [hds_u]; exact nw) hx2 ?_ w2
  · refine ⟨_, _, rfl, ?_, ?_⟩
    · show RepU _ _ _ _ _
      simp only [RepU]
    · rw [hds_u]
      exact valL_keep keep hZ q
  · intro r ρ' G' v H' hxx R' k
    obtain ⟨k1, k2⟩ := k
    match r, k1, R' with
    | .u .non, _, R' =>
      have hv := R'.val
      refine ⟨by simpa only [Val, RepU] using hv, ?_⟩
      have R'' := R'.rep
      rw [hd_u, or2_false] at R''
      exact en.ofU R'' (fun _ z => z) hxx (u := .ref x) (by simp only [RepU]) k2
theorem c_make (C : Ctx c n X K) (hh : K.hot = false) {ki fi : Nat} {xn : Str} {es : Es} {el : List Expr} {p : Pos} (hg : K.glob xn = true) (hf : K.mks.lookup fi = some (ki, xn)) (hck : ckEs K es el = true) (ga : PA X el (tA c (gN c n) X es)) :
    PE X (.Call (.Name xn p) el [] pos) (tE c (gN c n) X (.make ki fi es)) := by
  obtain ⟨hm, cl, fa, fd, ps, M, hb, F⟩ := C.mks fi ki xn hf
  obtain ⟨g1, g2, _⟩ := gl_of C hg
  refine ⟨fun pins s σ H Q I h => ?_⟩
  obtain ⟨L, Z, ρ, G, Xm, Qm, R, hL, w, tk, en⟩ := h
  simp only [wpE] at w
  have args : tA c (gN c n) X es σ H fun vs H1 => ∀ (s1 : Shared) (us : List Value), Inv X pins σ H1 s1 → Vals vs us → wpAny (model X.prog X.w) X.A (call (.ref (c.ca ki)) us) (EP X pins σ Q) X.xe s1 :=
    ⟨L, Z, ρ, G, Xm, _, R, hL, w, tk, fun rs ρ1 G1 vs H1 hx R1 q1 ap nw w1 s1 us I1 hu => make_end C hh M cl hb F I1 hu R1 hL q1 ap nw hx tk en w1⟩
  refine wpAny_Call_Name_kw (ld_glob I g1 hm ?_ g2)
  cases el with
  | nil =>
    cases es with
    | cons m ms => cases hck
    | nil =>
      obtain ⟨L, Z, ρ, G, Xm, Qm, R, hL, w, tk, en⟩ := args
      simp only [wpEs] at w
      have e : Hds [] ([] : List V) = fun _ => False := rfl
      exact PySem.W.callWith_K0 I.kIn M.kp (en [] ρ G [] H (Ext.refl _ _) (by rw [e, or2_false]; exact R) rfl trivial (fun p z => z.elim) w s [] I .nil)
  | cons e el =>
    cases es with
    | nil => cases hck
    | cons m ms =>
      simp only [ckEs, Bool.and_eq_true] at hck
      exact PySem.W.callWith_K (h₀ := X.base) I.ok.mod.kin M.kp (thn (ga.run pos pins s σ H _ I args) fun us s1 ⟨vs, H1, I1, r, q⟩ => ⟨I1.kIn, q s1 us I1 r⟩) (star_cons (ck_plain hck.1)) (cks_nostar hck.2).1
theorem meth_ht {env : Env} {mn : Str} {oe : Expr} {es : Es} {el : List Expr} {ap cp : Pos} (hns : notSup oe = true) (hck : ckEs K es el = true) (hl : (ap.endLine == cp.line) = true) (few : el.length < 9) :
    eval (.Call (.Attribute oe mn ap) el [] cp) env = (do
      let ov ← eval oe env
      standAt ap.atName
      let (f, first) ← holding [ov] (getMethod ov mn (do return (← importBound oe env).getD true))
      callWith cp f first (backTo cp (starEach el env)) (backToKw cp (keywordEach [] env))) := by
  have e : eval (.Call (.Attribute oe mn ap) el [] cp) env = (do
      let ov ← attributeBase oe mn env (eval oe env)
      standAt ap.atName
      methodCall oe mn ap cp env ov (el.length + ([] : List Keyword).length) (backTo cp (starEach el env)) (backToKw cp (keywordEach [] env))) := rfl
  have hfew : methodCallForm (el.length + ([] : List Keyword).length) (backTo cp (starEach el env)) (backToKw cp (keywordEach [] env)) = true := by
    unfold methodCallForm
    rw [(cks_nostar hck).2]
    have z : backToKw cp (keywordEach [] env) = [] := rfl
    rw [z]
    simp
    omega
  rw [e, attrBase hns]
  unfold methodCall methodCallPos calleeOf
  rw [hfew, hl]
  simp only [Bool.not_true, Bool.or_true, if_true, pure_bind]
theorem c_meth (C : Ctx c n X K) (hh : K.hot = false) {ki fi : Nat} {mn : Str} {o : E} {oe : Expr} {es : Es} {el : List Expr} {ap cp : Pos} (hf : K.mth.lookup fi = some (ki, mn)) (hns : notSup oe = true) (hck : ckEs K es el = true) (go : PE X oe (tE c (gN c n) X o)) (ga : PA X el (tA c (gN c n) X es))
    {pl : Sem Bool} (ht : eval (.Call (.Attribute oe mn ap) el [] cp) X.env = (do
      let ov ← eval oe X.env
      standAt ap.atName
      let (f, first) ← holding [ov] (getMethod ov mn pl)
      callWith cp f first (backTo cp (starEach el X.env)) (backToKw cp (keywordEach [] X.env)))) :
    PE X (.Call (.Attribute oe mn ap) el [] cp) (tE c (gN c n) X (.meth ki fi o es)) := by
  obtain ⟨cl, fa, fd, ps, M, hb, F⟩ := C.mth fi ki mn hf
  refine ⟨fun pins s σ H Q I h => ?_⟩
  have key : tE c (gN c n) X o σ H fun x H1 => ∃ p dx gs, x = .ref p ∧ H1 p = some (.ins (c.ca ki) dx gs) ∧ gs.lookup mn = none ∧ tA c (gN c n) X es σ H1 fun vs H2 => ∀ (s1 : Shared) (us : List Value), Inv X pins σ H2 s1 → Vals (.ref p :: vs) us → wpAny (model X.prog X.w) X.A (call (.ref fa) us) (EP X pins σ Q) X.xe s1 := by
    obtain ⟨L, Z, ρ, G, Xm, Qm, R, hL, w, tk, en⟩ := h
    simp only [wpE] at w
    refine ⟨L, Z, ρ, G, Xm, _, R, hL, w, tk, fun ro ρ1 G1 x H1 hx R1 w1 => ?_⟩
    cases ro <;> try exact w1.elim
    rename_i z
    cases z <;> try exact w1.elim
    rename_i p
    simp only at w1
    cases hg : G1 p with
    | none => rw [hg] at w1; exact w1.elim
    | some ob =>
      rw [hg] at w1
      cases ob with
      | con u => exact w1.elim
      | ins k fs =>
        obtain ⟨ek, w1⟩ := w1
        subst ek
        have R1' := R1.rep
        rw [hd_u, or2_false] at R1'
        obtain ⟨dx, gs, e1, h1, h2, rf⟩ := ins_at R1' hg
        have qx : x = .ref p := by simpa only [Val, RepU] using R1.val
        refine ⟨p, dx, gs, qx, e1, ?_, L, Z, ρ1, G1, Xm, _, R1', hL, w1, tk.go hx fun _ z => z, fun rs ρ2 G2 vs H2 hx2 R2 q2 apt nw w2 s1 us I1 hu => ?_⟩
        · have no : ∀ {fs : List (Nat × U)} {gs : List (Str × V)}, RepFs X.K H1 (Or2 (fp σ ρ1 G1) Z) c.ca.fn fs gs → (∀ q ∈ fs, c.ca.fd k q.1 = true) → gs.lookup mn = none := by
            intro fs
            induction fs with
            | nil =>
              intro gs r _
              have r' : gs = [] := r
              rw [r']; rfl
            | cons q fs ih =>
              intro gs r hq
              obtain ⟨g, y⟩ := q
              obtain ⟨v, t, e, r1, r2⟩ := r
              subst e
              rw [List.lookup_cons]
              have hne : (mn == c.ca.fn g) = false := beq_eq_false_iff_ne.mpr fun z => by
                have h3 := h1.2 _ (hq (g, y) (by simp))
                have h4 := M.at_
                rw [z] at h4
                have h5 : PySem.W.findIn X.K (.ref (c.ca k)) (c.ca.fn g) = some none := h3
                rw [h5] at h4
                cases h4
              rw [hne]
              exact ih r2 fun q hq' => hq q (List.mem_cons_of_mem _ hq')
          exact no rf h2
        · refine call_end C hh (rs := .u (.ref p) :: rs) (vs := .ref p :: vs) hb F I1 hu (by rw [hds_u]; exact R2) hL ?_ ⟨fun a z => z.elim, apt⟩ (by rw [hds_u]; exact fun q z => ⟨newback hx (nw q z).1, (nw q z).2⟩) (hx.trans hx2) tk en w2
          refine ⟨_, _, rfl, ?_, by rw [hds_u]; exact q2⟩
          show RepU _ _ _ _ _
          simp only [RepU]
  refine PySem.W.methodCall_KW (pl := pl) (thn (go.run pins s σ H _ I key) fun u s1 ⟨x, H1, I1, rx, p, dx, gs, ex, ea, l, q⟩ => ?_) ht
  subst ex
  obtain rfl : u = Value.ref p := rx
  refine getmeth_ok I1 ea cl M l ?_
  cases el with
  | nil =>
    cases es with
    | cons m ms => cases hck
    | nil =>
      obtain ⟨L, Z, ρ, G, Xm, Qm, R, hL, w, tk, en⟩ := q
      simp only [wpEs] at w
      have e : Hds [] ([] : List V) = fun _ => False := rfl
      exact PySem.W.callWith_K0 (first := [.ref p]) I1.kIn M.kp (en [] ρ G [] H1 (Ext.refl _ _) (by rw [e, or2_false]; exact R) rfl trivial (fun p z => z.elim) w s1 [.ref p] I1 (.cons rfl .nil))
  | cons e el =>
    cases es with
    | nil => cases hck
    | cons m ms =>
      simp only [ckEs, Bool.and_eq_true] at hck
      exact PySem.W.callWith_K (first := [.ref p]) (h₀ := X.base) I1.ok.mod.kin M.kp (thn (ga.run cp pins s1 σ H1 _ I1 q) fun us s2 ⟨vs, H2, I2, r, q2⟩ => ⟨I2.kIn, q2 s2 (.ref p :: us) I2 (.cons rfl r)⟩) (star_cons (ck_plain hck.1)) (cks_nostar hck.2).1
end
end Mp
namespace Sst
open PySem PySem.Spec PyProof.Rows L2
section
variable {P : Program} {w : World} {K : Type} [DecidableEq K]
structure KF (knd : PySem.KeyKind P w K) where
  kf : Value → K
  gd : Value → Prop
  is : ∀ v, gd v → ∀ k, knd.is k v = true ↔ kf v = k
  sc : ∀ v, gd v → v.scannable = true
variable {knd : PySem.KeyKind P w K} (F : KF knd) {A : Around} {E : Value → Shared → Prop} {s : Shared} {a : Addr} {ks : List K}
noncomputable def Gd (e : Int × Value) : Prop := F.gd e.2 ∧ e.1 = knd.hash (F.kf e.2)
noncomputable def kz (e : Int × Value) : K := F.kf e.2
/-- the set at a has just the members of ks -/
noncomputable def SetG (h : Heap) (a : Addr) (ks : List K) : Prop :=
  ∃ o es ep t, h.get? a = some o ∧ o.ExactSet ∧ o.data = .set es ep t ∧ (∀ e ∈ es.toList, Gd F e) ∧ (es.toList.map (kz F)).Nodup ∧ (∀ k, k ∈ ks ↔ k ∈ es.toList.map (kz F)) ∧
    es.size < scanBound ∧ t.fits es.size = true ∧ es.size ≤ ks.length ∧ Ris t.place.toList ∧ (w.params.followText "set-order" = true ∨ t.led = true)
variable {F}
theorem SetG.at {h h' : Heap} (R : SetG F h a ks) (k : ∀ o, h.get? a = some o → h'.get? a = some o) : SetG F h' a ks := by
  obtain ⟨o, es, ep, t, ho, r⟩ := R
  exact ⟨o, es, ep, t, k o ho, r⟩
theorem good_elems {l : List (Int × Value)} (g : ∀ e ∈ l, Gd F e) : ElemsOf knd l := fun e he =>
  ⟨⟨F.kf e.2, (F.is _ (g e he).1 _).2 rfl, (g e he).2⟩, F.sc _ (g e he).1⟩
theorem good_mem {l : List (Int × Value)} (g : ∀ e ∈ l, Gd F e) (k : K) : k ∈ l.map (kz F) ↔ ∃ e ∈ l, knd.is k e.2 = true := by
  rw [List.mem_map]
  constructor
  · rintro ⟨e, he, q⟩
    exact ⟨e, he, (F.is _ (g e he).1 k).2 q⟩
  · rintro ⟨e, he, q⟩
    exact ⟨e, he, (F.is _ (g e he).1 k).1 q⟩
theorem setG_tail {g : Bool → Sem Unit} (hg : ∀ (b : Bool) (s₁ : Shared) (Q' : Unit → Shared → Prop), Q' () s₁ → wpAny (model P w) A (g b) Q' E s₁)
    {o : Obj} {es : Array (Int × Value)} {ep : Nat} {t : SetTable} (ho : s.heap.get? a = some o) (hex : o.ExactSet) (hd : o.data = .set es ep t)
    {es1 : Array (Int × Value)} {t2 : SetTable} {ks' : List K} (g1 : ∀ e ∈ es1.toList, Gd F e) (nd1 : (es1.toList.map (kz F)).Nodup) (m1 : ∀ k, k ∈ ks' ↔ k ∈ es1.toList.map (kz F))
    (hb1 : es1.size < scanBound) (hf2 : t2.fits es1.size = true) (hl1 : es1.size ≤ ks'.length) (hr : Ris t2.place.toList) (hl : w.params.followText "set-order" = true ∨ t2.led = true) {wasDummy : Bool} {R : Option Bool → Shared → Prop}
    (hR : ∀ h', Heap.SameBut a s.heap h' → SetG F h' a ks' → R (some true) { s with heap := h' }) :
    wpAny (model P w) A (do
        storeSet a es1 t2
        if (!wasDummy && t2.tooFull) = true then do
            g (relayAll t2 es1 (SetTable.grown es1.size)).2.2
            storeSet a (relayAll t2 es1 (SetTable.grown es1.size)).1 (relayAll t2 es1 (SetTable.grown es1.size)).2.1
            pure (some true)
          else pure (some true)) R E s := by
  refine wpAny_bind (wpAny_storeSet_of ho hd ?_ (fits_of_scanBound hb1))
  have ho1 := store_at (es' := es1) (t' := t2) ho hd
  have sb1 := Heap.SameBut.update s.heap a (Obj.putSet es1 t2)
  split
  · have pm := relayAll_perm t2 es1 (SetTable.grown es1.size)
    have hf3 := relayAll_fits t2 es1 (SetTable.grown es1.size)
    have hr3 := relayAll_ris t2 es1 (SetTable.grown es1.size)
    have hl3 := relayAll_led t2 es1 (SetTable.grown es1.size)
    generalize relayAll t2 es1 (SetTable.grown es1.size) = Z at pm hf3 hr3 hl3 ⊢
    obtain ⟨es2, t3, gave⟩ := Z
    dsimp only at pm hf3 hr3 hl3 ⊢
    have hsz : es2.size = es1.size := by rw [← Array.length_toList, pm.length_eq, Array.length_toList]
    have hb2 : es2.size < scanBound := by rw [hsz]; exact hb1
    refine wpAny_bind (hg _ _ _ ?_)
    refine wpAny_bind (wpAny_storeSet_of ho1 rfl ?_ (fits_of_scanBound hb2))
    have ho2 := store_at (es' := es2) (t' := t3) ho1 rfl
    refine wpAny_pure (hR _ (sb1.trans (Heap.SameBut.update _ a _)) ?_)
    exact ⟨_, es2, _, t3, ho2, hex, rfl, fun e he => g1 e (pm.mem_iff.mp he), (pm.map (kz F)).nodup_iff.mpr nd1, fun k => (m1 k).trans (pm.map (kz F)).mem_iff.symm, hb2, hf3, by rw [hsz]; exact hl1, hr3,
      hl.imp id fun z => by rw [hl3]; exact z⟩
  · exact wpAny_pure (hR _ sb1 ⟨_, es1, _, t2, ho1, hex, rfl, g1, nd1, m1, hb1, hf2, hl1, hr, hl⟩)
theorem setG_add {v : Value} {Q : Bool → Shared → Prop} (gv : F.gd v) (R : SetG F s.heap a ks) (room : ks.length + 1 < scanBound)
    (hQ : ∀ b h', Heap.SameBut a s.heap h' → SetG F h' a (ks ++ [F.kf v]) → Q b { s with heap := h' }) :
    wpAny (model P w) A (setAddHashed a v (knd.hash (F.kf v))) Q E s := by
  obtain ⟨o, es, ep, t, ho, hex, hd, g, nd, hm, hb, hf, hn, hr, hl⟩ := R
  have hkey : knd.is (F.kf v) v = true := (F.is v gv _).2 rfl
  have hsc : v.scannable = true := F.sc v gv
  have hel : ElemsOf knd es.toList := good_elems g
  unfold setAddHashed setAddHashedIn
  refine wpAny_holding (wpAny_bind (wpAny_setState_of ho hd hf ?_))
  dsimp only
  rw [byScan_of hsc hb hel]
  simp only [↓reduceIte]
  unfold setAddByScan
  refine wpAny_bind ?_
  refine wpAny_bind (wpAny_rule ?_)
  refine wpAny_bind (wpAny_setScan_of hkey ho hd hf hel ?_)
  cases hfi : List.findIdx? (fun e => knd.is (F.kf v) e.2) es.toList with
  | some j =>
    dsimp only
    obtain ⟨hj, pj, _⟩ := List.findIdx?_eq_some_iff_getElem.mp hfi
    have hSk : F.kf v ∈ ks := (hm _).2 ((good_mem g _).2 ⟨es.toList[j], List.getElem_mem hj, pj⟩)
    refine wpAny_pure (wpAny_pure ?_)
    exact hQ false s.heap (Heap.SameBut.refl a s.heap) ⟨o, es, ep, t, ho, hex, hd, g, nd, fun i => by
      rw [List.mem_append, List.mem_singleton, ← hm i]
      exact ⟨fun z => z.elim id (fun e => e ▸ hSk), .inl⟩, hb, hf, by rw [List.length_append]; omega, hr, hl⟩
  | none =>
    dsimp only
    have hnk : F.kf v ∉ es.toList.map (kz F) := fun z => by
      obtain ⟨e, he, q⟩ := (good_mem g _).1 z
      have c := List.findIdx?_eq_none_iff.mp hfi e he
      rw [q] at c
      cases c
    have hgw : ∀ (b : Bool) {s₁ : Shared} {Q' : Unit → Shared → Prop}, Q' () s₁ → wpAny (model P w) A (match b with | true => rule "set.scan.the-table-gave-way" | false => pure ()) Q' E s₁ :=
      fun b s₁ Q' q => by cases b <;> first | exact wpAny_pure q | exact wpAny_rule q
    have pm := layNew_perm t es (knd.hash (F.kf v)) v
    have hf1 := layNew_fits t es (knd.hash (F.kf v)) v
    have hr1 := layNew_ris t es (knd.hash (F.kf v)) v hr
    have hl1 := layNew_led t es (knd.hash (F.kf v)) v
    generalize layNew t es (knd.hash (F.kf v)) v = Z at pm hf1 hr1 hl1 ⊢
    obtain ⟨es1, t1, wasDummy, gave⟩ := Z
    dsimp only at pm hf1 hr1 hl1 ⊢
    rw [Array.toList_push] at pm
    have pc : es1.toList.Perm ((knd.hash (F.kf v), v) :: es.toList) := pm.trans (List.perm_append_singleton _ _)
    have pk : (es1.toList.map (kz F)).Perm (F.kf v :: es.toList.map (kz F)) := pc.map (kz F)
    have g1 : ∀ e ∈ es1.toList, Gd F e := fun e he => by
      rcases List.mem_cons.mp (pc.mem_iff.mp he) with z | z
      · rw [z]; exact ⟨gv, rfl⟩
      · exact g e z
    have nd1 : (es1.toList.map (kz F)).Nodup := pk.nodup_iff.mpr (List.nodup_cons.mpr ⟨hnk, nd⟩)
    have m1 : ∀ i, i ∈ ks ++ [F.kf v] ↔ i ∈ es1.toList.map (kz F) := fun i => by
      rw [List.mem_append, List.mem_singleton, hm i, pk.mem_iff, List.mem_cons]
      exact Or.comm
    have hsz : es1.size = es.size + 1 := by rw [← Array.length_toList, pc.length_eq, List.length_cons, Array.length_toList]
    have hb1 : es1.size < scanBound := by omega
    have hle : es1.size ≤ (ks ++ [F.kf v]).length := by rw [List.length_append, List.length_singleton]; omega
    have hled : w.params.followText "set-order" = true ∨ t1.led = true := hl.imp id fun z => by rw [hl1]; exact z
    refine wpAny_bind (hgw _ ?_)
    split
    · refine wpAny_bind ?_
      rw [hashByValue_scannable 8 hsc]
      refine wpAny_pure ?_
      refine setG_tail ?_ ho hex hd g1 nd1 m1 hb1 ?_ hle ?_ ?_ ?_
      · intro b s₁ Q' q; cases b <;> first | exact wpAny_pure q | exact wpAny_rule q
      · first | (split <;> first | exact hf1 | exact SetTable.fits_plain_off hf1) | exact hf1
      · first | (split <;> exact hr1) | exact hr1
      · first | (split <;> exact hled) | exact hled
      · intro h' sb r; dsimp only; exact wpAny_pure (hQ _ h' sb r)
    · refine wpAny_bind (wpAny_pure ?_)
      simp only [↓reduceIte]
      refine setG_tail ?_ ho hex hd g1 nd1 m1 hb1 hf1 hle hr1 hled ?_
      · intro b s₁ Q' q; cases b <;> first | exact wpAny_pure q | exact wpAny_rule q
      · intro h' sb r; dsimp only; exact wpAny_pure (hQ _ h' sb r)
theorem setG_new_at {h : Heap} (ho : h.get? a = some { cls := .type "set", dict := none, data := .set #[] 0 (.fresh 0 0 (!w.params.followText "set-order")) }) : SetG F h a [] :=
  ⟨_, #[], 0, _, ho, ⟨rfl, rfl, rfl⟩, rfl, (fun e he => by simp at he), (by simp), (fun k => by simp), (by decide), (by rfl), Nat.le_refl _, List.Pairwise.nil, by
    show _ ∨ (!w.params.followText "set-order") = true
    cases w.params.followText "set-order"
    · exact .inr rfl
    · exact .inl rfl⟩
theorem setG_loop {I : Addr} {fp wr : List Addr} {G : Array GenState → Array GenState → Prop} {n : Nat} {Pv : Nat → Value → Prop} {St : Nat → Shared → Prop} {R : Result → Shared → Prop}
    (W : WalksS P w A.in1 I fp wr G n Pv St) (S : Addr) (hSf : S ∉ fp) (ns : List K) (hn : n = ns.length) (hb : ns.length + 1 < scanBound) (hval : ∀ i v, Pv i v → F.gd v ∧ ns[i]? = some (F.kf v)) :
    ∀ (k i : Nat) (s : Shared), n - i = k → i ≤ n → St i s → SetG F s.heap S (ns.take i) →
      (∀ s', Moved (S :: wr) G s s' → SetG F s'.heap S ns → R (.ok (.ret .none)) s') →
      codeAny (model P w) A (.builtin "set.update.loop" ⟨[.ref S, .ref I], []⟩) R s := by
  have hSw : S ∉ wr := fun h => hSf (W.sub _ h)
  have hsub : ∀ b ∈ wr, b ∈ S :: wr := fun b hb => List.mem_cons_of_mem _ hb
  intro k
  induction k with
  | zero =>
    intro i s hk' hi hst hS hR
    have hin : i = n := by omega
    subst hin
    refine codeAny_builtin PyProof.Rows.F.entry_set_update_loop ?_
    rw [Around.under_plainId PyProof.Rows.F.plain_set_update_loop _]
    show wpAny _ A.in1 (pyNext (.ref I) >>= _) _ _ s
    refine wpAny_bind (W.done s _ _ hst fun s' hm => ?_)
    show wpAny _ A.in1 (ret Value.none) _ _ s'
    have e : ns.take i = ns := List.take_of_length_le (by omega)
    rw [e] at hS
    exact wpAny_pure (hR s' (hm.mono hsub) (hS.at fun o e => hm.heap S o hSw e))
  | succ k ih =>
    intro i s hk' hi hst hS hR
    have hlt : i < n := by omega
    refine codeAny_builtin PyProof.Rows.F.entry_set_update_loop ?_
    rw [Around.under_plainId PyProof.Rows.F.plain_set_update_loop _]
    show wpAny _ A.in1 (pyNext (.ref I) >>= _) _ _ s
    refine wpAny_bind (W.item i s _ _ hlt hst fun v s' hP hst' hm => ?_)
    obtain ⟨gv, hz⟩ := hval i v hP
    have hS' : SetG F s'.heap S (ns.take i) := hS.at fun o e => hm.heap S o hSw e
    show wpAny _ A.in1 (holding [v] (setAdd S v) >>= _) _ _ s'
    refine wpAny_bind (wpAny_holding ?_)
    unfold setAdd
    refine wpAny_holding ?_
    refine wpAny_bind (knd.pyHash (k := F.kf v) ((F.is v gv _).2 rfl) ?_)
    refine setG_add (s := { s' with toks := s'.toks + 1 }) gv hS' (by rw [List.length_take]; omega) fun b h' hsb hS2 => ?_
    have hS3 : SetG F h' S (ns.take (i + 1)) := by
      rw [List.take_add_one, hz]
      exact hS2
    refine wpAny_pure ⟨plainId_quiet PyProof.Rows.F.plain_set_update_loop _, ih (i + 1) _ (by omega) hlt (W.frame _ s' _ _ hst' (Nat.le_succ _) fun b hb o e => ?_) hS3 fun s'' hm'' hS'' => ?_⟩
    · rw [hsb.2 b (fun h : b = S => hSf (by rw [← h]; exact hb))]; exact e
    · refine hR s'' (Moved.trans W.gtrans ((hm.mono hsub).then_heap (Nat.le_succ _) fun b o hb e => ?_) hm'') hS''
      rw [hsb.2 b (fun h : b = S => hb (by rw [h]; exact List.mem_cons_self))]; exact e
set_option maxHeartbeats 3200000 in
theorem call_setG {l : Addr} {items : Array Value} (ns : List K) {Q : Value → Shared → Prop} (hh : A.handled = none) (hl : s.heap.IsList l items) (hgd : ∀ v ∈ items.toList, F.gd v) (hns : items.toList.map F.kf = ns) (hb : ns.length + 1 < scanBound)
    (h : ∀ (h' : Heap) (tk : Nat), SetG F h' s.heap.objs.size ns → (∀ b o, s.heap.get? b = some o → h'.get? b = some o) → Q (.ref s.heap.objs.size) { s with heap := h', toks := tk }) :
    wpAny (model P w) A (call (.type "set") [.ref l]) Q E s := by
  have hisz : items.size = ns.length := by rw [← hns, List.length_map, Array.length_toList]
  obtain ⟨c, tl, hmro⟩ := PySem.F.called_set.mro
  have hmade := PySem.F.called_set.made
  have hsub := PySem.F.called_set.sub
  refine wpAny_call (codeAny_of_tree ?_)
  show wpAny _ _ (callAny (.type "set") _) _ _ _
  refine wpAny_pure ⟨Code.quiet_builtin _ (by decide +kernel), codeAny_builtin PySem.F.entry_type_call ?_⟩
  rw [Around.under_plain (weight_type_call_type "set" [.ref l] []) rfl]
  have h1 := PySem.F.called_set.notType
  have h2 := PySem.F.called_set.canCreate
  have hct := PySem.F.typeCall_set_1 (.ref l)
  repeat (any_goals (first | assumption | wp_step))
  refine codeAny_mono (code_set_led1 (.ref l) (E := E) (Q₁ := fun obj s₁ => obj = .ref s.heap.objs.size ∧ s₁ = { s with heap := s.heap.push { cls := .type "set", dict := none, data := .set #[] 0 (.fresh 0 0 (!w.params.followText "set-order")) } }) ⟨rfl, rfl⟩) fun r s₁ hr => ?_
  cases r with
  | error e => exact hr
  | ok fl =>
    cases fl with
    | ret obj =>
      obtain ⟨rfl, rfl⟩ := hr
      have hS : (s.heap.push { cls := .type "set", dict := none, data := .set #[] 0 (.fresh 0 0 (!w.params.followText "set-order")) }).get? s.heap.objs.size = some { cls := .type "set", dict := none, data := .set #[] 0 (.fresh 0 0 (!w.params.followText "set-order")) } := Heap.get?_push_size _ rfl
      have hT : Shared.TypeIs { s with heap := s.heap.push { cls := .type "set", dict := none, data := .set #[] 0 (.fresh 0 0 (!w.params.followText "set-order")) } } (.ref s.heap.objs.size) "set" := ⟨_, hS, rfl⟩
      have hli := PySem.F.called_set.init.lookup
      have hbi := PySem.F.called_set.init.bind (.ref s.heap.objs.size)
      repeat (any_goals (first | assumption | wp_step))
      refine codeAny_mono (codeAny_call_builtin (R := wants (fun r s₂ => r = .none ∧ ∃ h' tk, s₂ = { s with heap := h', toks := tk } ∧ SetG F h' s.heap.objs.size ns ∧
          (∀ b o, s.heap.get? b = some o → h'.get? b = some o)) E) PySem.F.called_set.init.plain PySem.F.entry_set_init (check_set_init_1 hT ?_)) fun r₂ s₂ hr₂ => ?_
      · obtain ⟨ol, hol, hcl, nl, hdl⟩ := hl
        obtain ⟨ocls, odict, odata, oslots⟩ := ol
        simp only at hcl hdl
        subst hcl; subst hdl
        have hol' : (s.heap.push { cls := .type "set", dict := none, data := .set #[] 0 (.fresh 0 0 (!w.params.followText "set-order")) }).get? l = some { cls := .type "list", dict := odict, data := .seq items nl, slots := oslots } := Heap.get?_push_of_some _ hol
        have hsls := PySem.F.sub_list_set
        have hslf := PySem.F.sub_list_frozenset
        have hne : (Value.type "list" == Value.type "dict") = false := by decide
        have hl1 : (s.heap.push { cls := .type "set", dict := none, data := .set #[] 0 (.fresh 0 0 (!w.params.followText "set-order")) }).IsList l items := ⟨_, hol', rfl, nl, rfl⟩
        unfold Builtin.«set.__init__» noKeywords Builtin.Frozenset.updateFrom
        generalize hPI : pyIter = PI
        wp_walk
        subst hPI
        refine wpAny_pyIter_list hl1 ?_
        refine wpAny_bind (wpAny_runValue ?_)
        have hlS : l < s.heap.objs.size := Heap.lt_size hol
        have hh3 : A.in1.in1.in1.handled = none := by simp [hh]
        have hneI : l ≠ (s.heap.push { cls := .type "set", dict := none, data := .set #[] 0 (.fresh 0 0 (!w.params.followText "set-order")) }).objs.size := by
          rw [Heap.size_push]; exact Nat.ne_of_lt (Nat.lt_succ_of_lt hlS)
        have hSf : s.heap.objs.size ∉ [(s.heap.push { cls := .type "set", dict := none, data := .set #[] 0 (.fresh 0 0 (!w.params.followText "set-order")) }).objs.size, l] := by
          rw [Heap.size_push]; simp only [List.mem_cons, List.mem_singleton, List.not_mem_nil, or_false, not_or]
          exact ⟨Nat.ne_of_lt (Nat.lt_succ_self _), Nat.ne_of_gt hlS⟩
        have hval : ∀ (i : Nat) (v : Value), items[i]? = some v → F.gd v ∧ ns[i]? = some (F.kf v) := fun i v hv => by
          have q : items.toList[i]? = some v := by rw [Array.getElem?_toList]; exact hv
          refine ⟨hgd v (List.mem_of_getElem? q), ?_⟩
          rw [← hns, List.getElem?_map, q] <;> rfl
        refine setG_loop ((Walks.list hh3 _ l hneI items).toS) s.heap.objs.size
          hSf ns hisz hb hval (items.size - 0) 0 _ (by omega) (Nat.zero_le _)
          ⟨⟨_, Heap.get?_push_size _ rfl, rfl, rfl⟩, (hl1.push _)⟩ ?hS0 ?hR
        case hS0 =>
          have hget : ((s.heap.push { cls := .type "set", dict := none, data := .set #[] 0 (.fresh 0 0 (!w.params.followText "set-order")) }).push { cls := .type "list_iterator", data := .fields #[.ref l, .int 0 0] }).get? s.heap.objs.size
              = some { cls := .type "set", dict := none, data := .set #[] 0 (.fresh 0 0 (!w.params.followText "set-order")) } := Heap.get?_push_of_some _ hS
          exact setG_new_at hget
        case hR =>
          intro s' hm hS'
          obtain ⟨h', g2, d', tk', os'⟩ := s'
          have eg : g2 = s.gens := hm.gens
          have ed : d' = s.drawn := hm.drawn
          have eo : os' = s.os := hm.os
          subst eg; subst ed; subst eo
          show wpAny _ _ _ _ _ _
          refine wpAny_pure ?_
          show wpAny _ _ (ret Value.none) _ _ _
          refine wpAny_pure ⟨rfl, h', tk', rfl, hS', fun b o e => ?_⟩
          have hb0 : b < s.heap.objs.size := Heap.lt_size e
          have hb1 : b ≠ s.heap.objs.size := Nat.ne_of_lt hb0
          have hb2 : b ≠ (s.heap.push { cls := .type "set", dict := none, data := .set #[] 0 (.fresh 0 0 (!w.params.followText "set-order")) }).objs.size := by
            rw [Heap.size_push]; exact Nat.ne_of_lt (Nat.lt_succ_of_lt hb0)
          exact hm.heap b o (by simp only [List.mem_cons, List.mem_singleton, List.not_mem_nil, or_false, not_or]; exact ⟨hb1, hb2⟩) (Heap.get?_push_of_some _ (Heap.get?_push_of_some _ e))
      · cases r₂ with
        | error e => exact hr₂
        | ok fl₂ =>
          cases fl₂ with
          | ret r =>
            obtain ⟨rfl, h', tk, rfl, hS', hk'⟩ := hr₂
            repeat (any_goals (first | assumption | wp_step))
            exact h _ _ hS' hk'
          | _ => exact hr₂.elim
    | _ => exact hr.elim
/-- sorted(set): the sort is told by hs -/
theorem sorted_setG {Q : Value → Shared → Prop} (R : SetG F s.heap a ks) (hh : A.handled = none) {G : Array Value → List K → Prop}
    (hs : ∀ (vs : List Value) (ps : List K) (A' : Around) (s' : Shared) (p : Addr) (c : Nat) (Q' : Fin → Shared → Prop), (∀ v ∈ vs, F.gd v) → vs.map F.kf = ps → vs.length ≤ sizeLine → s'.heap.get? p = some (seqObj "list" vs.toArray c) →
      (∀ out ps', G out ps' → ps'.Perm ps → Q' (.done (.ret .none)) { s' with heap := sortedHeap s'.heap p vs out }) → wpAny (model P w) A' (Builtin.«list.sort» ⟨[.ref p], []⟩) Q' E s')
    (hQ : ∀ s' p (out : Array Value) (c : Nat) (ps us : List K), (∀ b o, s.heap.get? b = some o → s'.heap.get? b = some o) → s'.gens = s.gens → s'.os = s.os → s.heap.objs.size ≤ p →
      s'.heap.get? p = some (seqObj "list" out c) → G out ps → ps.Perm us → us.Nodup → (∀ k, k ∈ ks ↔ k ∈ us) → us.length ≤ ks.length → us.length < scanBound → Q (.ref p) s') :
    wpAny (model P w) A (call (.builtin "sorted") [.ref a]) Q E s := by
  obtain ⟨o, es, ep, t, ho, hex, hd, g, nd, hm, hb, hf, hn, hr, hl⟩ := R
  refine Calls.call_function_entry kind_sorted plain_sorted entry_sorted (args_sorted1 _) ?_
  unfold Builtin.«sorted»
  refine wpAny_bind (m := checkCount "sorted" 1 1 _) (wpAny_pure ?_)
  refine wpAny_bind (collect_set (A := A.in1) hh ⟨o, ho, hex.1, hd⟩ hf hb hr hl fun s1 vs k1 hz g1 o1 pm => ?_)
  have hvl : vs.length = es.size := by rw [pm.length_eq, List.length_map, Array.length_toList]
  have hI : ∀ v ∈ vs, F.gd v := fun v hv => by
    obtain ⟨e, he, q⟩ := List.mem_map.mp (pm.mem_iff.mp hv)
    rw [← q]
    exact (g e he).1
  have pk : (vs.map F.kf).Perm (es.toList.map (kz F)) := by
    have q := pm.map F.kf
    rw [List.map_map] at q
    exact q
  have hvs : vs.length ≤ sizeLine := by rw [hvl]; exact fits_of_scanBound hb
  refine wpAny_bind (wpAny_newList ?_ hvs)
  have hoL : (s1.heap.push (seqObj "list" vs.toArray 0)).get? s1.heap.objs.size = some (seqObj "list" vs.toArray 0) := Heap.get?_push_size _ rfl
  refine wpAny_bind (wpAny_holding (wpAny_call_entry slot_list_sort ⟨_, hoL, rfl⟩ entry_list_sort (hs vs _ _ _ _ _ _ hI rfl hvs hoL fun out ps' a1 a2 => ⟨_, rfl, ?_⟩) (args_list_sort _)))
  obtain ⟨c, hc⟩ := sortedHeap_at (vs := vs) (out := out) hoL
  refine wpAny_pure ⟨_, rfl, hQ _ s1.heap.objs.size out c ps' _ (fun b u e => ?_) g1 o1 hz hc a1 (a2.trans pk) nd hm ?_ ?_⟩
  · have q := k1 b u e
    have hlt := Heap.lt_size q
    show (sortedHeap (s1.heap.push (seqObj "list" vs.toArray 0)) s1.heap.objs.size vs out).get? b = some u
    rw [sortedHeap_old (Nat.ne_of_lt hlt) (by rw [size_push']; exact Nat.lt_succ_of_lt hlt)]
    exact Heap.get?_push_of_some _ q
  · rw [List.length_map, Array.length_toList]; exact hn
  · rw [List.length_map, Array.length_toList]; exact hb
end
noncomputable def fI (P : Program) (w : World) : KF (PySem.intKind P w) where
  kf := Builtin.Re.reRawOf
  gd v := ∃ k t, v = Value.int k t
  is := by
    rintro v ⟨k, t, rfl⟩ k'
    show ((k == k') = true) ↔ k = k'
    exact beq_iff_eq
  sc := by
    rintro v ⟨k, t, rfl⟩
    rfl
noncomputable def fS (P : Program) (w : World) : KF (PySem.strKind P w) where
  kf := PyProof.Rows.strOf
  gd v := ∃ x t, v = Value.str x t
  is := by
    rintro v ⟨x, t, rfl⟩ k'
    exact ⟨fun h => (PySem.strKind P w).inj _ _ _ (strKind_is P w x t) h, fun h => h ▸ strKind_is P w x t⟩
  sc := by
    rintro v ⟨x, t, rfl⟩
    rfl
theorem ints_raw : ∀ {us : List Value} {ns : List Int}, IntsAre us ns → us.map Builtin.Re.reRawOf = ns
  | _, _, .nil => rfl
  | _, _, .cons n t h => by rw [List.map_cons, ints_raw h] <;> rfl
section
variable {X : Cx}
/-- what sorted(set(xs)) of texts tells -/
noncomputable def tSset (K : PySem.W.Frag) (ta : TE) : TE := fun σ H Q => ta σ H fun x H1 => ∃ l, x = V.ref l ∧
  ((∃ ss : List Str, SqL K H1 l (ss.map V.str) ∧ ss.length < 4000 ∧ ∀ (us ys : List Str) (p : Addr), us.Nodup → (∀ k, k ∈ ss ↔ k ∈ us) → ys.Perm us → sortedS ys = true → H1 p = none → Q (.ref p) (upd H1 p (.lst (ys.map V.str)))) ∨
   ∃ ns : List Int, SqL K H1 l (ns.map V.int) ∧ ns.length < 4000 ∧ ∀ (us ys : List Int) (p : Addr), us.Nodup → (∀ k, k ∈ ns ↔ k ∈ us) → ys.Perm us → ys.Pairwise (· ≤ ·) → H1 p = none → Q (.ref p) (upd H1 p (.lst (ys.map V.int))))
theorem pe_sset {a : Expr} {ta : TE} {p p2 q pos : Pos} (hc : X.calm = true) (hg : Gl X "sorted") (hm : X.mg "sorted" = none) (hg2 : Gl X "set") (hm2 : X.mg "set" = none) (ha : PE X a ta)
    (na : starEach [a] X.env = (false, eval a X.env) :: starEach [] X.env := by rfl) : PE X (.Call (.Name "sorted" p) [.Call (.Name "set" p2) [a] [] q] [] pos) (tSset X.K ta) := by
  refine ⟨fun pins s σ H Q I h => ?_⟩
  refine Call_ (ld_blt I hg hm (by decide +kernel : bootBuiltins "sorted" = some (.builtin "sorted")) ?_)
  refine PyProof.Rows.callWith_builtin1 (PyProof.Rows.args_cons ?_ rfl) rfl rfl
  refine Call_ (ld_blt I hg2 hm2 PyProof.Rows.boot_set ?_)
  refine PyProof.Rows.callWith_type1 (PyProof.Rows.args_cons (thn (ha.run pins s σ H _ I h) fun v s1 ⟨x, H1, I1, r1, q1⟩ => PyProof.Rows.args_nil ?_) na) na rfl
  obtain ⟨l, rfl, q1⟩ := q1
  cases r1
  have hh := I1.ok.hd hc
  rcases q1 with ⟨ss, hq, h1, q1⟩ | ⟨ns, hq, h1, q1⟩
  · obtain ⟨its, r, pl, hz⟩ := I1.list hq
    have r' : StrsAre its ss := r.strs
    refine call_setG (F := fS X.prog X.w) ss hh pl.isList (fun v hv => r'.all v (by simpa using hv)) (by show List.map PyProof.Rows.strOf _ = _; simpa using r'.strs) (by unfold scanBound; omega) fun h' tk R hk => ?_
    refine PyProof.Rows.args_nil ?_
    have I2 : Inv X pins σ H1 { s1 with heap := h', toks := tk } := I1.kept hk
    have R' : SetG _ ({ s1 with heap := h', toks := tk } : Shared).heap s1.heap.objs.size _ := R
    generalize ({ s1 with heap := h', toks := tk } : Shared) = s2 at I2 R' ⊢
    refine sorted_setG R' hh (G := fun out ps => StrsAre out.toList ps ∧ sortedS ps = true) (fun vs ps A' s' p c Q' g1 g2 g3 g4 g5 => ?_) fun s' p out c ps us k g o hp hg hG pm nd hm hl hb => ?_
    · have hS := strsAre_map vs g1
      have e : vs.map PyProof.Rows.strOf = ps := g2
      rw [e] at hS
      refine list_sort_treeKAny strKind_oneLt g4 hS.keysOf (fun v₁ v₂ rest e => keyKind_strs (by rw [← e]; exact hS)) g3 fun st' b1 b2 => ?_
      obtain ⟨ss', c1, c2, c3⟩ := sorted_out_str hS b1 b2
      exact g5 _ ss' ⟨c1, c3⟩ c2
    · have hlen : (ps.map V.str).length ≤ sizeLine := by rw [List.length_map, pm.length_eq, sizeLine_eq]; unfold scanBound at hb; omega
      have hn : H1 p = none := I2.hok.fresh hp
      have J : Inv X pins σ (upd H1 p (.lst (ps.map V.str))) { s2 with heap := s'.heap, gens := s'.gens, drawn := s'.drawn, toks := s'.toks } :=
        I2.call (ch := []) (Un.laid k hp hn) (I2.hok.laid k hp ⟨hlen, out.toList, c, vals_of_strs hG.1, hg⟩) (by rw [g]; exact I2.bare) (fun _ z => nomatch z)
      have e : s' = { s2 with heap := s'.heap, gens := s'.gens, drawn := s'.drawn, toks := s'.toks } := by
        cases s'
        cases s2
        cases o
        rfl
      rw [e]
      exact ⟨.ref p, _, J, rfl, q1 us ps p nd hm pm hG.2 hn⟩
  · obtain ⟨its, r, pl, hz⟩ := I1.list hq
    have r' : IntsAre its ns := r.ints
    refine call_setG (F := fI X.prog X.w) ns hh pl.isList (fun v hv => r'.all v (by simpa using hv)) (by show List.map Builtin.Re.reRawOf _ = _; simpa using ints_raw r') (by unfold scanBound; omega) fun h' tk R hk => ?_
    refine PyProof.Rows.args_nil ?_
    have I2 : Inv X pins σ H1 { s1 with heap := h', toks := tk } := I1.kept hk
    have R' : SetG _ ({ s1 with heap := h', toks := tk } : Shared).heap s1.heap.objs.size _ := R
    generalize ({ s1 with heap := h', toks := tk } : Shared) = s2 at I2 R' ⊢
    refine sorted_setG R' hh (G := fun out ps => IntsAre out.toList ps ∧ ps.Pairwise (· ≤ ·)) (fun vs ps A' s' p c Q' g1 g2 g3 g4 g5 => ?_) fun s' p out c ps us k g o hp hg hG pm nd hm hl hb => ?_
    · have hS := ints_of vs g1
      have e : vs.map Builtin.Re.reRawOf = ps := g2
      rw [e] at hS
      exact list_sort_treeAny g4 hS g3 fun out ns' c1 c2 c3 => g5 _ ns' ⟨c1, c3⟩ c2
    · have hlen : (ps.map V.int).length ≤ sizeLine := by rw [List.length_map, pm.length_eq, sizeLine_eq]; unfold scanBound at hb; omega
      have hn : H1 p = none := I2.hok.fresh hp
      have J : Inv X pins σ (upd H1 p (.lst (ps.map V.int))) { s2 with heap := s'.heap, gens := s'.gens, drawn := s'.drawn, toks := s'.toks } :=
        I2.call (ch := []) (Un.laid k hp hn) (I2.hok.laid k hp ⟨hlen, out.toList, c, vals_of_ints hG.1, hg⟩) (by rw [g]; exact I2.bare) (fun _ z => nomatch z)
      have e : s' = { s2 with heap := s'.heap, gens := s'.gens, drawn := s'.drawn, toks := s'.toks } := by
        cases s'
        cases s2
        cases o
        rfl
      rw [e]
      exact ⟨.ref p, _, J, rfl, q1 us ps p nd hm pm hG.2 hn⟩
/-- len(set(xs)), of ints, alike or not -/
noncomputable def tLset (K : PySem.W.Frag) (ta : TE) : TE := fun σ H Q => ta σ H fun x H1 => ∃ l, x = V.ref l ∧
  ∃ ns : List Int, SqL K H1 l (ns.map V.int) ∧ ns.length < 4000 ∧ ∀ us : List Int, us.Nodup → (∀ k, k ∈ ns ↔ k ∈ us) → Q (.int (us.length : Nat)) H1
theorem pe_lset {a : Expr} {ta : TE} {p p2 q pos : Pos} (hc : X.calm = true) (hg : Gl X "len") (hm : X.mg "len" = none) (hg2 : Gl X "set") (hm2 : X.mg "set" = none) (ha : PE X a ta)
    (na : starEach [a] X.env = (false, eval a X.env) :: starEach [] X.env := by rfl) : PE X (.Call (.Name "len" p) [.Call (.Name "set" p2) [a] [] q] [] pos) (tLset X.K ta) := by
  refine ⟨fun pins s σ H Q I h => ?_⟩
  refine Call_ (ld_blt I hg hm PySem.boot_len ?_)
  refine PyProof.Rows.callWith_builtin1 (PyProof.Rows.args_cons ?_ rfl) rfl rfl
  refine Call_ (ld_blt I hg2 hm2 PyProof.Rows.boot_set ?_)
  refine PyProof.Rows.callWith_type1 (PyProof.Rows.args_cons (thn (ha.run pins s σ H _ I h) fun v s1 ⟨x, H1, I1, r1, q1⟩ => PyProof.Rows.args_nil ?_) na) na rfl
  obtain ⟨l, rfl, ns, hq, h1, q1⟩ := q1
  cases r1
  obtain ⟨its, r, pl, hz⟩ := I1.list hq
  have r' : IntsAre its ns := r.ints
  refine call_setG (F := fI X.prog X.w) ns (I1.ok.hd hc) pl.isList (fun v hv => r'.all v (by simpa using hv)) (by show List.map Builtin.Re.reRawOf _ = _; simpa using ints_raw r') (by unfold scanBound; omega) fun h' tk R hk => ?_
  refine PyProof.Rows.args_nil ?_
  have I2 : Inv X pins σ H1 { s1 with heap := h', toks := tk } := I1.kept hk
  obtain ⟨o, es, ep, t, ho, hex, hd, _, nd, hm, hb, hf, _, _⟩ := R
  refine call_len_set ho hex hd hf (by unfold scanBound at hb; omega) ⟨.int es.size, H1, I2.tok _, ⟨_, rfl⟩, ?_⟩
  have e : (es.toList.map (kz (fI X.prog X.w))).length = es.size := by rw [List.length_map, Array.length_toList]
  rw [← e]
  exact q1 _ nd hm
end
end Sst
namespace Lrv
open PySem PySem.Spec PyProof.Rows RT
theorem nolen_rt : typeLookup (.type "reversed") "__len__" = pure none := by rw [typeLookup_type, builtinLookup_eq_fast]; kernel_rfl
theorem hint_rt : typeLookup (.type "reversed") "__length_hint__" = pure (some (.builtin "reversed.__length_hint__")) := by rw [typeLookup_type, builtinLookup_eq_fast]; kernel_rfl
theorem slot_rt_hint : Slot "reversed" "__length_hint__" "reversed.__length_hint__" :=
  .of (owner := "reversed") (n := "__length_hint__") (by rw [typeLookup_type, builtinLookup_eq_fast]; kernel_rfl) (by decide +kernel) (by decide +kernel) (by decide +kernel)
    (by first | exact .inl (by decide +kernel) | exact .inr (by decide +kernel)) (by rw [isSubtype_type]; kernel_rfl)
theorem args_rt_hint (a : Value) : argsOk "reversed.__length_hint__" ⟨[a], []⟩ := by
  unfold argsOk; rw [signature?_of (id := "reversed.__length_hint__") (n := ['_', '_', 't', 'n', 'i', 'h', '_', 'h', 't', 'g', 'n', 'e', 'l', '_', '_']) (o := ['d', 'e', 's', 'r', 'e', 'v', 'e', 'r']) (by kernel_rfl) owner_rt]; kernel_rfl
theorem entry_rt_hint : entryFor table "reversed.__length_hint__" = some Builtin.«reversed.__length_hint__» := entryFor_of_tree (by kernel_rfl)
section
variable {prog : Program} {w : World} {A : Around} {E : Value → Shared → Prop} {s : Shared} {R : Result → Shared → Prop}
/-- list(it), it of reversed(a list) -/
theorem extend_lri {it l : Addr} {items : Array Value} (hh : A.handled = none) (S : Addr) (res : Value) (c₀ : Nat) (hit : s.heap.IsRevIter it l ((items.size : Int) - 1)) (hl : s.heap.IsList l items) (hne : l ≠ it) (hn : items.size ≤ sizeLine) (hSi : S ≠ it) (hSl : S ≠ l)
    (hS : s.heap.get? S = some { cls := .type "list", data := .seq #[] c₀ })
    (hR : ∀ (h' : Heap) (tk : Nat) (acc : Array Value) (c' : Nat), (∀ b o, b ≠ it → b ≠ S → s.heap.get? b = some o → h'.get? b = some o) → h'.get? S = some { cls := .type "list", dict := none, data := .seq acc c', slots := #[] } → ItemsOf (fun i v => items[items.size - 1 - i]? = some v) acc items.size → R (.ok (.ret res)) { s with heap := h', toks := tk }) :
    wpAny (model prog w) A.in1 (Builtin.List.listExtendWith (.ref S) (.ref it) res)
      (fun fin s' => match fin with | .done f => R (.ok f) s' | .again c' => c'.quiet = true ∧ codeAny (model prog w) A c' R s') (fun e s' => R (.error e) s') s := by
  have W := (Walks.listRev (prog := prog) (w := w) (A := A.in1) hh it l hne items).toS
  have hSf : S ∉ [it, l] := by simp only [List.mem_cons, List.not_mem_nil, or_false, not_or]; exact ⟨hSi, hSl⟩
  have hT : s.TypeIs (.ref it) "list_reverseiterator" := hit.typeIs
  have h1 : Builtin.List.listSameRef (.ref S) (.ref it) = false := by simp [Builtin.List.listSameRef, hSi]
  unfold Builtin.List.listExtendWith
  refine wpAny_bind (wpAny_typeOf hT ?_)
  rw [if_neg (by rw [h1]; decide)]
  refine wpAny_bind (wpAny_pyIter_revIter hit ?_)
  refine wpAny_bind (wpAny_holding ?_)
  unfold Builtin.List.listLengthHint
  refine wpAny_bind (wpAny_specialOf hT nolen_lri ?_)
  show wpAny _ A.in1 (specialOf (Value.ref it) (Str.ofString "__length_hint__") >>= _) _ _ _
  refine wpAny_bind (wpAny_specialOf hT hint_lri ?_)
  generalize hid : ("list_reverseiterator.__length_hint__" : String) = id0
  wp_delta
  rw [show splitId id0 = some ("list_reverseiterator", "__length_hint__") from by subst hid; decide +kernel]
  subst hid
  refine wpAny_bind (wpAny_isInstance (b := true) hT (by rw [isSubtype_type]; kernel_rfl) ?_)
  refine wpAny_pure ?_
  rw [if_neg (by decide)]
  have e0 : ((items.size : Nat) : Int) - 1 - ((0 : Nat) : Int) = (items.size : Int) - 1 := by omega
  refine wpAny_pure ⟨plainId_quiet F.plain_extend_loop _, codeAny_extend_loopS W hn _ hSf _ items.size 0 _ _ _ rfl (Nat.zero_le _) ⟨Nat.zero_le _, by rw [e0]; exact hit, hl⟩ hS (ItemsOf.nil _) fun s' acc' c' hm hS' hacc => ?_⟩
  rw [Moved.eq_with hm]
  exact hR s'.heap s'.toks acc' c' (fun b o hb hbS e => hm.heap b o (fun hmem => by
    rcases List.mem_cons.mp hmem with e' | hmem
    · exact hbS e'
    · exact hb (List.mem_singleton.mp hmem)) e) hS' hacc
theorem call_list_lri {it l : Addr} {items : Array Value} {Q : Value → Shared → Prop} (hh : A.handled = none) (hit : s.heap.IsRevIter it l ((items.size : Int) - 1)) (hl : s.heap.IsList l items) (hne : l ≠ it) (hn : items.size ≤ sizeLine)
    (hQ : ∀ (h' : Heap) (tk : Nat) (acc : Array Value) (c' : Nat), (∀ b o, b ≠ it → s.heap.get? b = some o → h'.get? b = some o) → h'.get? s.heap.objs.size = some { cls := .type "list", dict := none, data := .seq acc c', slots := #[] } → ItemsOf (fun i v => items[items.size - 1 - i]? = some v) acc items.size → Q (.ref s.heap.objs.size) { s with heap := h', toks := tk }) :
    wpAny (model prog w) A (call (.type "list") [.ref it]) Q E s := by
  obtain ⟨oi, hoi, _⟩ := id hit
  obtain ⟨ol, hol, _⟩ := id hl
  have hSi : s.heap.objs.size ≠ it := Nat.ne_of_gt (Heap.lt_size hoi)
  have hSl : s.heap.objs.size ≠ l := Nat.ne_of_gt (Heap.lt_size hol)
  refine callType_codes (Q₁ := fun obj s₁ => obj = .ref s.heap.objs.size ∧ s₁ = { s with heap := s.heap.push { cls := .type "list", data := .seq #[] } }) F.called_list (F.typeCall_list_1 _) F.entry_list_init
    (code_list_new _ ⟨rfl, rfl⟩) fun obj s₁ h₁ => ?_
  obtain ⟨rfl, rfl⟩ := h₁
  have hS : (s.heap.push { cls := .type "list", data := .seq #[] }).get? s.heap.objs.size = some { cls := .type "list", data := .seq #[] } := Heap.get?_push_size _ rfl
  refine ⟨⟨_, hS, rfl⟩, F.args_list_init_2 _ _, ?_⟩
  show wpAny _ A.in1.in1 (do let old ← Builtin.List.listItems (.ref s.heap.objs.size); Builtin.List.listUpdate (.ref s.heap.objs.size) (fun _ => #[]); letGo old.toList.reverse; Builtin.List.listExtendWith (.ref s.heap.objs.size) (.ref it) .none) _ _ _
  refine wpAny_bind ?_
  unfold Builtin.List.listItems
  refine wpAny_bind (wpAny_seqItems hS rfl (wpAny_pure ?_))
  show wpAny _ A.in1.in1 (updateSeq s.heap.objs.size (fun _ => #[]) >>= fun _ => letGo (#[] : Array Value).toList.reverse >>= fun _ => Builtin.List.listExtendWith (.ref s.heap.objs.size) (.ref it) .none) _ _ _
  refine wpAny_bind (wpAny_updateSeq hS rfl ?_)
  have hS₂ := Heap.get?_update_self (Obj.mapSeq (fun _ => (#[] : Array Value))) hS rfl
  have oth : ∀ b o, b ≠ s.heap.objs.size → s.heap.get? b = some o → ((s.heap.push { cls := .type "list", data := .seq #[] }).update s.heap.objs.size (Obj.mapSeq (fun _ => (#[] : Array Value)))).get? b = some o :=
    fun b o hb e => (Heap.get?_update_other _ _ (Ne.symm hb)).trans (Heap.get?_push_of_some _ e)
  refine wpAny_bind (wpAny_letGo ?_)
  have hl2 : ((s.heap.push { cls := .type "list", data := .seq #[] }).update s.heap.objs.size (Obj.mapSeq (fun _ => (#[] : Array Value)))).IsList l items := by
    obtain ⟨o, ho, r⟩ := id hl
    exact ⟨o, oth _ _ (Ne.symm hSl) ho, r⟩
  refine extend_lri (A := A.in1) hh s.heap.objs.size .none _ (hit.at fun o e => oth _ _ (Ne.symm hSi) e) hl2 hne hn hSi hSl hS₂ fun h' tk acc c' hk hS' hacc => ?_
  exact ⟨rfl, hQ h' tk acc c' (fun b o hb e => hk b o hb (fun z => absurd (Heap.lt_size e) (by rw [z]; exact Nat.lt_irrefl _)) (oth b o (fun z => absurd (Heap.lt_size e) (by rw [z]; exact Nat.lt_irrefl _)) e)) hS' hacc⟩
theorem Walks.rt (hh : A.handled = none) (it t : Addr) (hne : t ≠ it) (items : Array Value) (hsz : items.size ≤ sizeLine) :
    Walks prog w A it [it, t] [it] items.size (fun i v => items[items.size - 1 - i]? = some v) (fun i h => i ≤ items.size ∧ IsRt h it t ((items.size : Int) - 1 - (i : Int)) ∧ IsTup h t items) where
  sub := fun b hb => by simp at hb; simp [hb]
  frame := fun _ _ _ x hk => ⟨x.1, x.2.1.at fun o e => hk it (by simp) o e, let ⟨o, ho, r⟩ := x.2.2; ⟨o, hk t (by simp) o ho, r⟩⟩
  item := fun i s Q E hi x hQ => by
    have e : (items.size : Int) - 1 - (i : Int) = ((items.size - 1 - i : Nat) : Int) := by omega
    have hit := x.2.1
    rw [e] at hit
    have hx : items[items.size - 1 - i]? = some (items[items.size - 1 - i]'(by omega)) := Array.getElem?_eq_getElem (by omega)
    refine next_rt_item hit x.2.2 hx hsz fun h' hit' hs' => ?_
    have e2 : ((items.size - 1 - i : Nat) : Int) - 1 = (items.size : Int) - 1 - ((i + 1 : Nat) : Int) := by omega
    rw [e2] at hit'
    obtain ⟨o, ho, r⟩ := x.2.2
    exact hQ _ h' (s.toks + 1) hx ⟨hi, hit', o, (hs'.2 t hne).trans ho, r⟩ fun b o hb eo => (hs'.2 b (fun h => hb (by simp [h]))).trans eo
  done := fun s Q E x hQ => by
    have e : (items.size : Int) - 1 - (items.size : Int) = -1 := by omega
    have hit := x.2.1
    rw [e] at hit
    exact next_rt_end hh hit fun h' he' => hQ h' s.toks fun b o hb eo => he' b o (fun h => hb (by simp [h])) eo
  self := fun _ _ _ _ x hQ => iter_rt x.2.1 hQ
theorem hint_run {it t : Addr} {items : Array Value} {Q : Bool → Shared → Prop} (hit : IsRt s.heap it t ((items.size : Int) - 1)) (ht : IsTup s.heap t items) (hsz : items.size ≤ sizeLine)
    (h : ∀ tk, Q (((items.size : Nat) : Int) != 0) { s with toks := tk }) : wpAny (model prog w) A (Builtin.List.listLengthHint (.ref it)) Q E s := by
  have hT : s.TypeIs (.ref it) "reversed" := hit.typeIs
  unfold Builtin.List.listLengthHint
  refine wpAny_bind (wpAny_specialOf hT nolen_rt ?_)
  show wpAny _ A (specialOf (Value.ref it) (Str.ofString "__length_hint__") >>= _) _ _ _
  refine wpAny_bind (wpAny_specialOf hT hint_rt ?_)
  generalize hid : ("reversed.__length_hint__" : String) = id0
  wp_delta
  rw [show splitId id0 = some ("reversed", "__length_hint__") from by subst hid; decide +kernel]
  subst hid
  refine wpAny_bind (wpAny_isInstance (b := true) hT (by rw [isSubtype_type]; kernel_rfl) ?_)
  rw [if_neg (by decide)]
  try dsimp only
  rw [if_neg (by decide +kernel)]
  refine wpAny_bind (wpAny_rule ?_)
  refine wpAny_bind (wpAny_of_eq (slot_rt_hint.bind _) ?_)
  try dsimp only
  refine wpAny_bind (wpAny_attempt (wpAny_call_entry slot_rt_hint hT entry_rt_hint ?_ (args_rt_hint _)))
  obtain ⟨o, ho, hc, hd⟩ := id hit
  unfold Builtin.«reversed.__length_hint__»
  refine wpAny_bind (wpAny_of_eq (a := Value.ref it) rfl ?_)
  try dsimp only
  refine wpAny_bind (wpAny_field ho hd (x := .ref t) rfl ?_)
  try dsimp only
  rw [if_neg (by rw [show (Value.ref t == Value.none) = false from rfl]; decide)]
  try dsimp only
  rw [sizeLine_eq] at hsz
  refine wpAny_bind (len_tuple ht (by omega) ?_)
  refine wpAny_bind (wpAny_of_eq (a := some ((items.size : Nat) : Int)) rfl ?_)
  try dsimp only
  refine wpAny_bind (wpAny_field (s := { s with toks := s.toks + 1 + 1 }) ho hd (x := rawInt ((items.size : Int) - 1)) rfl ?_)
  show wpAny _ _ (if ((items.size : Nat) : Int) < ((items.size : Int) - 1) + 1 then _ else _) _ _ _
  rw [if_neg (by omega)]
  unfold retInt
  refine wpAny_bind (wpAny_mkInt ?_)
  refine wpAny_pure ⟨_, rfl, ?_⟩
  try dsimp only
  refine wpAny_bind (wpAny_of_eq (a := some (((items.size : Int) - 1) + 1)) rfl ?_)
  try dsimp only
  have e0 : ((items.size : Int) - 1) + 1 = (items.size : Int) := by omega
  rw [e0]
  have f1 : Builtin.List.listFitsIndex ((items.size : Nat) : Int) = true := by
    simp only [Builtin.List.listFitsIndex, Bool.and_eq_true, decide_eq_true_eq]
    omega
  have f2 : Builtin.List.listTooLong (((items.size : Nat) : Int)).toNat = false := by
    simp only [Builtin.List.listTooLong, decide_eq_false_iff_not, sizeLine_eq]
    omega
  rw [if_neg (by rw [f1]; decide), if_neg (by omega), if_neg (by rw [f2]; decide)]
  exact wpAny_pure (h _)
theorem extend_rt {it l : Addr} {items : Array Value} (hh : A.handled = none) (S : Addr) (res : Value) (c₀ : Nat) (hit : IsRt s.heap it l ((items.size : Int) - 1)) (hl : IsTup s.heap l items) (hne : l ≠ it) (hn : items.size ≤ sizeLine) (hSi : S ≠ it) (hSl : S ≠ l)
    (hS : s.heap.get? S = some { cls := .type "list", data := .seq #[] c₀ })
    (hR : ∀ (h' : Heap) (tk : Nat) (acc : Array Value) (c' : Nat), (∀ b o, b ≠ it → b ≠ S → s.heap.get? b = some o → h'.get? b = some o) → h'.get? S = some { cls := .type "list", dict := none, data := .seq acc c', slots := #[] } → ItemsOf (fun i v => items[items.size - 1 - i]? = some v) acc items.size → R (.ok (.ret res)) { s with heap := h', toks := tk }) :
    wpAny (model prog w) A.in1 (Builtin.List.listExtendWith (.ref S) (.ref it) res)
      (fun fin s' => match fin with | .done f => R (.ok f) s' | .again c' => c'.quiet = true ∧ codeAny (model prog w) A c' R s') (fun e s' => R (.error e) s') s := by
  have W := (Walks.rt (prog := prog) (w := w) (A := A.in1) hh it l hne items hn).toS
  have hSf : S ∉ [it, l] := by simp only [List.mem_cons, List.not_mem_nil, or_false, not_or]; exact ⟨hSi, hSl⟩
  have hT : s.TypeIs (.ref it) "reversed" := hit.typeIs
  have h1 : Builtin.List.listSameRef (.ref S) (.ref it) = false := by simp [Builtin.List.listSameRef, hSi]
  have e0 : ((items.size : Nat) : Int) - 1 - ((0 : Nat) : Int) = (items.size : Int) - 1 := by omega
  unfold Builtin.List.listExtendWith
  refine wpAny_bind (wpAny_typeOf hT ?_)
  rw [if_neg (by rw [h1]; decide)]
  refine wpAny_bind (iter_rt hit ?_)
  refine wpAny_bind (wpAny_holding ?_)
  refine hint_run hit hl hn fun tk => ?_
  rcases Nat.eq_zero_or_pos items.size with hz | hz
  · have f0 : (((items.size : Nat) : Int) != 0) = false := by rw [hz]; rfl
    rw [f0, if_neg (by decide)]
    refine wpAny_pure ⟨plainId_quiet F.plain_extend_loop _, codeAny_extend_loopS W hn _ hSf _ items.size 0 _ _ _ rfl (Nat.zero_le _) ⟨Nat.zero_le _, by rw [e0]; exact hit, hl⟩ hS (ItemsOf.nil _) fun s' acc' c' hm hS' hacc => ?_⟩
    rw [Moved.eq_with hm]
    exact hR s'.heap s'.toks acc' c' (fun b o hb hbS e => hm.heap b o (fun hmem => by
      rcases List.mem_cons.mp hmem with e' | hmem
      · exact hbS e'
      · exact hb (List.mem_singleton.mp hmem)) e) hS' hacc
  · have f0 : (((items.size : Nat) : Int) != 0) = true := by
      rw [bne_iff_ne]
      omega
    rw [f0]
    show wpAny _ A.in1 (rule "list.extend.makes-room" >>= fun _ => Builtin.List.listTouch (.ref S) >>= fun _ =>
      again (.builtin "list.extend.loop" ⟨[.ref S, .ref it, res], []⟩)) _ _ _
    refine wpAny_bind (wpAny_rule ?_)
    refine wpAny_bind ?_
    show wpAny _ A.in1 (updateSeq S (·.push .none) >>= fun _ => updateSeq S (·.pop)) _ _ _
    refine wpAny_bind (wpAny_updateSeq hS rfl ?_)
    have hS₂ := Heap.get?_update_self (Obj.mapSeq (·.push Value.none)) hS rfl
    refine wpAny_updateSeq (hz := by seq_fits) hS₂ rfl ?_
    have hS₃ := Heap.get?_update_self (Obj.mapSeq (·.pop)) hS₂ rfl
    have oth : ∀ b o, b ≠ S → s.heap.get? b = some o → ((s.heap.update S (Obj.mapSeq (·.push Value.none))).update S (Obj.mapSeq (·.pop))).get? b = some o :=
      fun b o hb e => (Heap.get?_update_other _ _ (Ne.symm hb)).trans ((Heap.get?_update_other _ _ (Ne.symm hb)).trans e)
    have hl2 : IsTup ((s.heap.update S (Obj.mapSeq (·.push Value.none))).update S (Obj.mapSeq (·.pop))) l items := by
      obtain ⟨o, ho, r⟩ := id hl
      exact ⟨o, oth _ _ (Ne.symm hSl) ho, r⟩
    refine wpAny_pure ⟨plainId_quiet F.plain_extend_loop _, codeAny_extend_loopS W hn _ hSf _ items.size 0 _ _ _ rfl (Nat.zero_le _)
      ⟨Nat.zero_le _, by rw [e0]; exact hit.at fun o e => oth _ _ (Ne.symm hSi) e, hl2⟩ hS₃ (ItemsOf.nil _) fun s' acc' c' hm hS' hacc => ?_⟩
    rw [Moved.eq_with hm]
    exact hR s'.heap s'.toks acc' c' (fun b o hb hbS e => hm.heap b o (fun hmem => by
      rcases List.mem_cons.mp hmem with e' | hmem
      · exact hbS e'
      · exact hb (List.mem_singleton.mp hmem)) (oth b o hbS e)) hS' hacc
theorem call_list_rt {it l : Addr} {items : Array Value} {Q : Value → Shared → Prop} (hh : A.handled = none) (hit : IsRt s.heap it l ((items.size : Int) - 1)) (hl : IsTup s.heap l items) (hne : l ≠ it) (hn : items.size ≤ sizeLine)
    (hQ : ∀ (h' : Heap) (tk : Nat) (acc : Array Value) (c' : Nat), (∀ b o, b ≠ it → s.heap.get? b = some o → h'.get? b = some o) → h'.get? s.heap.objs.size = some { cls := .type "list", dict := none, data := .seq acc c', slots := #[] } → ItemsOf (fun i v => items[items.size - 1 - i]? = some v) acc items.size → Q (.ref s.heap.objs.size) { s with heap := h', toks := tk }) :
    wpAny (model prog w) A (call (.type "list") [.ref it]) Q E s := by
  obtain ⟨oi, hoi, _⟩ := id hit
  obtain ⟨ol, hol, _⟩ := id hl
  have hSi : s.heap.objs.size ≠ it := Nat.ne_of_gt (Heap.lt_size hoi)
  have hSl : s.heap.objs.size ≠ l := Nat.ne_of_gt (Heap.lt_size hol)
  refine callType_codes (Q₁ := fun obj s₁ => obj = .ref s.heap.objs.size ∧ s₁ = { s with heap := s.heap.push { cls := .type "list", data := .seq #[] } }) F.called_list (F.typeCall_list_1 _) F.entry_list_init
    (code_list_new _ ⟨rfl, rfl⟩) fun obj s₁ h₁ => ?_
  obtain ⟨rfl, rfl⟩ := h₁
  have hS : (s.heap.push { cls := .type "list", data := .seq #[] }).get? s.heap.objs.size = some { cls := .type "list", data := .seq #[] } := Heap.get?_push_size _ rfl
  refine ⟨⟨_, hS, rfl⟩, F.args_list_init_2 _ _, ?_⟩
  show wpAny _ A.in1.in1 (do let old ← Builtin.List.listItems (.ref s.heap.objs.size); Builtin.List.listUpdate (.ref s.heap.objs.size) (fun _ => #[]); letGo old.toList.reverse; Builtin.List.listExtendWith (.ref s.heap.objs.size) (.ref it) .none) _ _ _
  refine wpAny_bind ?_
  unfold Builtin.List.listItems
  refine wpAny_bind (wpAny_seqItems hS rfl (wpAny_pure ?_))
  show wpAny _ A.in1.in1 (updateSeq s.heap.objs.size (fun _ => #[]) >>= fun _ => letGo (#[] : Array Value).toList.reverse >>= fun _ => Builtin.List.listExtendWith (.ref s.heap.objs.size) (.ref it) .none) _ _ _
  refine wpAny_bind (wpAny_updateSeq hS rfl ?_)
  have hS₂ := Heap.get?_update_self (Obj.mapSeq (fun _ => (#[] : Array Value))) hS rfl
  have oth : ∀ b o, b ≠ s.heap.objs.size → s.heap.get? b = some o → ((s.heap.push { cls := .type "list", data := .seq #[] }).update s.heap.objs.size (Obj.mapSeq (fun _ => (#[] : Array Value)))).get? b = some o :=
    fun b o hb e => (Heap.get?_update_other _ _ (Ne.symm hb)).trans (Heap.get?_push_of_some _ e)
  refine wpAny_bind (wpAny_letGo ?_)
  have hl2 : IsTup ((s.heap.push { cls := .type "list", data := .seq #[] }).update s.heap.objs.size (Obj.mapSeq (fun _ => (#[] : Array Value)))) l items := by
    obtain ⟨o, ho, r⟩ := id hl
    exact ⟨o, oth _ _ (Ne.symm hSl) ho, r⟩
  refine extend_rt (A := A.in1) hh s.heap.objs.size .none _ (hit.at fun o e => oth _ _ (Ne.symm hSi) e) hl2 hne hn hSi hSl hS₂ fun h' tk acc c' hk hS' hacc => ?_
  exact ⟨rfl, hQ h' tk acc c' (fun b o hb e => hk b o hb (fun z => absurd (Heap.lt_size e) (by rw [z]; exact Nat.lt_irrefl _)) (oth b o (fun z => absurd (Heap.lt_size e) (by rw [z]; exact Nat.lt_irrefl _)) e)) hS' hacc⟩
end
end Lrv
namespace L2
open PySem PySem.Spec PyProof.Rows RT Lrv
/-- list(reversed(x)), x a list or a tuple: a new list -/
noncomputable def tLstRev (K : PySem.W.Frag) (te : TE) : TE := fun σ H Q => te σ H fun v H1 => ∃ (a : Addr) (xs : List V), v = .ref a ∧ (SqL K H1 a xs ∨ SqT K H1 a xs) ∧ ∀ q, H1 q = none → Q (.ref q) (upd H1 q (.lst xs.reverse))
section
variable {X : Cx}
theorem pe_lstRev {e : Expr} {te : TE} {p p2 pos pos2 : Pos} (hc : X.calm = true) (hg : Gl X "list") (hm : X.mg "list" = none) (hg2 : Gl X "reversed") (hm2 : X.mg "reversed" = none) (he : PE X e te)
    (hs : starEach [e] X.env = (false, eval e X.env) :: starEach [] X.env := by rfl)
    (hs2 : starEach [.Call (.Name "reversed" p2) [e] [] pos2] X.env = (false, eval (.Call (.Name "reversed" p2) [e] [] pos2) X.env) :: starEach [] X.env := by rfl) :
    PE X (.Call (.Name "list" p) [.Call (.Name "reversed" p2) [e] [] pos2] [] pos) (tLstRev X.K te) := by
  refine ⟨fun pins s σ H Q I h => ?_⟩
  refine Call_ (ld_blt I hg hm (show bootBuiltins "list" = some (.type "list") by decide +kernel) (PyProof.Rows.callWith_type1 (args_cons (Call_ (ld_blt I hg2 hm2 PyProof.Rows.boot_reversed (PyProof.Rows.callWith_type1 (args_cons (thn (he.run pins s σ H _ I h) fun u s1 ⟨v, H1, I1, r1, q1⟩ => args_nil ?_) hs) hs rfl))) hs2) hs2 rfl))
  obtain ⟨a, xs, ev, hq, q⟩ := q1
  subst ev
  obtain rfl : u = Value.ref a := r1
  rcases hq with hq | hq
  · obtain ⟨its, rv, p', hz⟩ := I1.list hq
    refine call_reversed_list p'.isList (args_nil ?_)
    have hl := p'.isList
    obtain ⟨ol, hol, _⟩ := id hl
    have hne : a ≠ s1.heap.objs.size := Nat.ne_of_lt (Heap.lt_size hol)
    have hn : its.toArray.size ≤ sizeLine := by rw [List.size_toArray, ← rv.length]; exact hz
    refine call_list_lri (s := { s1 with heap := s1.heap.push (revObj a ((its.toArray.size : Int) - 1)) }) (I1.ok.hd hc) ⟨_, Heap.get?_push_size _ rfl, rfl, rfl⟩ (hl.push _) hne hn fun h' tk acc c' hk hS hi => ?_
    have hle : s1.heap.objs.size ≤ (s1.heap.push (revObj a ((its.toArray.size : Int) - 1))).objs.size := by
      show s1.heap.objs.size ≤ (s1.heap.objs.push _).size
      rw [Array.size_push]
      exact Nat.le_succ _
    refine ⟨.ref (s1.heap.push (revObj a ((its.toArray.size : Int) - 1))).objs.size, upd H1 (s1.heap.push (revObj a ((its.toArray.size : Int) - 1))).objs.size (.lst xs.reverse), I1.laid (t' := tk) (fun c o e => hk c o (Nat.ne_of_lt (Heap.lt_size e)) (Heap.get?_push_of_some _ e)) hle (show ObjOk X.prog X.w _ _ _ (.lst xs.reverse) from ⟨by rw [List.length_reverse]; exact hz, acc.toList, c', vals_rev rv hi, by rw [Array.toArray_toList]; exact hS⟩), rfl, q _ (I1.hok.fresh hle)⟩
  · obtain ⟨its, rv, p', hz⟩ := I1.tuple hq
    obtain ⟨ol, hol, _⟩ := id p'
    have hne : a ≠ s1.heap.objs.size := Nat.ne_of_lt (Heap.lt_size hol)
    have hn : its.toArray.size ≤ sizeLine := by rw [List.size_toArray, ← rv.length]; exact hz
    have hn2 := hn
    rw [sizeLine_eq] at hn2
    refine call_reversed_tup p' (fun A E Q k => len_tuple p' (by omega) k) (args_nil ?_)
    refine call_list_rt (s := { s1 with heap := s1.heap.push (rtObj a ((its.toArray.size : Int) - 1)), toks := s1.toks + 1 + 1 }) (I1.ok.hd hc) ⟨_, Heap.get?_push_size _ rfl, rfl, rfl⟩ ⟨_, Heap.get?_push_of_some _ hol, by assumption⟩ hne hn fun h' tk acc c' hk hS hi => ?_
    have hle : s1.heap.objs.size ≤ (s1.heap.push (rtObj a ((its.toArray.size : Int) - 1))).objs.size := by
      show s1.heap.objs.size ≤ (s1.heap.objs.push _).size
      rw [Array.size_push]
      exact Nat.le_succ _
    refine ⟨.ref (s1.heap.push (rtObj a ((its.toArray.size : Int) - 1))).objs.size, upd H1 (s1.heap.push (rtObj a ((its.toArray.size : Int) - 1))).objs.size (.lst xs.reverse), I1.laid (t' := tk) (fun c o e => hk c o (Nat.ne_of_lt (Heap.lt_size e)) (Heap.get?_push_of_some _ e)) hle (show ObjOk X.prog X.w _ _ _ (.lst xs.reverse) from ⟨by rw [List.length_reverse]; exact hz, acc.toList, c', vals_rev rv hi, by rw [Array.toArray_toList]; exact hS⟩), rfl, q _ (I1.hok.fresh hle)⟩
end
end L2
namespace L2
open PySem PySem.Spec PyProof.Rows PySem.W
section
variable {prog : Program} {w : World} {A : Around} {E : Value → Shared → Prop} {s : Shared} {Q : Value → Shared → Prop} {l : Addr} {its : List Value} {ns : List Int} {d : Value}
theorem max_rawD (hh : A.handled = none) (hl : s.heap.IsList l its.toArray) (hi : IntsAre its ns)
    (h0 : ns = [] → ∀ h' tk, (∀ b o, s.heap.get? b = some o → h'.get? b = some o) → Q d { s with heap := h', toks := tk })
    (h : ∀ h' tk M t', (∀ b o, s.heap.get? b = some o → h'.get? b = some o) → M ∈ ns → (∀ a, a ∈ ns → a ≤ M) → Q (.int M t') { s with heap := h', toks := tk }) :
    wpAny (model prog w) A (call (.builtin "max") [.ref l] [(Str.ofString "default", d)]) Q E s := by
  obtain ⟨xs, e⟩ := hi.allInts.items
  have hn : numsOf (intItems xs).toList = ns := by rw [← e]; exact hi.numsOf
  rw [nums_intItems] at hn
  subst hn
  rw [e] at hl
  have hsz : (intItems xs).size = xs.size := by simp [intItems]
  refine call_max_walkD (iter_listW (A := A.in1) hh hl fun s₂ e W st hfp hw hk => ?_)
  refine ⟨_, _, _, _, _, _, _, s.heap, (fun i j => decide (numAt xs i > numAt xs j)), rfl, W, st, hfp, hw, hk, fun hz s' m => ?_, fun hp => ⟨fun i j vi vj s' Q' E' _ h1 h2 hq => CmpOf.ints_gt (numAt xs) (fun _ _ => intItems_at) i j vi vj s' Q' E' h1 h2 hq, fun v s' hP m => ?_⟩⟩
  · obtain ⟨h', tk, rfl, hk'⟩ := moved_old e rfl m
    exact h0 (by rw [hsz] at hz; have : xs = #[] := Array.eq_empty_of_size_eq_zero hz; rw [this]; rfl) h' tk hk'
  · obtain ⟨h', tk, rfl, hk'⟩ := moved_old e rfl m
    rw [hsz] at hP hp
    obtain ⟨t, rfl⟩ := intItems_at hP
    obtain ⟨h1, h2⟩ := argBest_gt (numAt xs) (xs.size - 1)
    refine h h' tk _ t hk' ?_ fun a ha => ?_
    · rw [numAt_eq]; exact PySem.getD_mem (by rw [List.length_map, Array.length_toList]; omega)
    · obtain ⟨j, hj, rfl⟩ := mem_getD ha
      rw [List.length_map, Array.length_toList] at hj
      rw [← numAt_eq]; exact h2 j (by omega)
end
/-- max(xs, default=d) of a list of ints -/
noncomputable def rMaxZ (d : Int) (K : PySem.W.Frag) : List V → List V → Hp → VK → Prop := fun vs zs H Q => ∃ (a : Addr) (ns : List Int), vs = [V.ref a] ∧ zs = [.int d] ∧ SqL K H a (ns.map V.int) ∧ (ns = [] → Q (.int d) H) ∧ ∀ m, m ∈ ns → (∀ y, y ∈ ns → y ≤ m) → Q (.int m) H
section
variable {X : Cx}
theorem cr_maxZ {d : Int} (hc : X.calm = true) : CallRK X (.builtin "max") [Str.ofString "default"] (rMaxZ d X.K) := by
  intro pins s σ H vs zs us ws Q I r rz h
  obtain ⟨a, ns, rfl, rfl, hs, q0, q⟩ := h
  obtain rfl := Vals.ref1 r
  obtain ⟨w1, rfl, e1⟩ := vals1 rz
  obtain ⟨t, rfl⟩ : ∃ t, w1 = Value.int d t := e1
  obtain ⟨its, rv, hl, _⟩ := I.list hs
  exact max_rawD (I.ok.hd hc) hl.isList rv.ints (fun hn h' tk hk => ⟨.int d, H, I.kept hk, ⟨_, rfl⟩, q0 hn⟩) fun h' tk m t' hk h1 h2 => ⟨.int _, H, I.kept hk, ⟨_, rfl⟩, q m h1 h2⟩
end
end L2
namespace L2
open PySem PySem.Spec PyProof.Rows
section
variable {X : Cx}
/-- sorted(d) of a dict with int keys, any number of them -/
theorem call_sortedDA (hcalm : X.calm = true) : CallR X (.builtin "sorted") (fun xs H Q => ∃ (a : Addr) (kvs : List (Key × V)) (ks : List Int), xs = [.ref a] ∧ Rd H a (.dK kvs) ∧ kvs.map (·.1) = ks.map Sum.inl ∧
    ∀ (ys : List Int) (p : Addr), ys.Perm ks → ys.Pairwise (· ≤ ·) → H p = none → Q (.ref p) (upd H p (.lst (ys.map V.int)))) := by
  intro pins s σ H xs us Q I r q
  obtain ⟨a, kvs, ks, ex, hd, hks, q⟩ := q
  subst ex
  obtain ⟨u, eu, rx⟩ := vals1 r
  subst eu
  cases rx
  obtain ⟨z, lo, vs, rel, dd⟩ := dk_rd I.hok hd
  obtain ⟨ep, hat⟩ := dd.dictAt
  have hkeys : vs.map (·.1) = ks.map Sum.inl := rel.keys.symm.trans hks
  have hl : vs.length = ks.length := by
    have e := congrArg List.length hkeys
    rw [List.length_map, List.length_map] at e
    exact e
  have h16 : vs.length ≤ sizeLine := by rw [← rel.length]; exact z
  refine Calls.call_function_entry PyProof.Rows.kind_sorted PyProof.Rows.plain_sorted PyProof.Rows.entry_sorted (PyProof.Rows.args_sorted1 _) ?_
  unfold Builtin.«sorted»
  refine wpAny_bind (m := checkCount "sorted" 1 1 _) (wpAny_pure ?_)
  refine wpAny_bind (PySem.W.kdu_collect (A := X.A.in1) (PySem.W.kdl_dict (knd := mixKind X.prog X.w) (kvs := vs) (ep := ep) lo) (I.ok.hd hcalm) hat h16 fun h' tk acc hk hacc => ?_)
  have hal : acc.toList.length = ks.length := by rw [Array.length_toList, hacc.1, hl]
  have hS : IntsAre acc.toList ks := ints_each hal fun j v e => by
    obtain ⟨k, x, e1, e2⟩ := hacc.2 j v (by rw [← Array.getElem?_toList]; exact e)
    have e3 : (vs.map (·.1))[j]? = some k := by rw [List.getElem?_map, e1]; rfl
    rw [hkeys, List.getElem?_map] at e3
    cases e4 : ks[j]? with
    | none => rw [e4] at e3; cases e3
    | some y =>
      rw [e4] at e3
      have e5 : Sum.inl y = k := Option.some.inj e3
      subst e5
      rcases keyIs_shape (show keyIs (Sum.inl y) v = true from e2) with ⟨i, t, ek, ev⟩ | ⟨z, t, ek, ev⟩
      · cases ek
        exact ⟨y, t, rfl, ev⟩
      · cases ek
  have I1 : Inv X pins σ H { s with heap := h', toks := tk } := I.kept hk
  refine wpAny_bind (wpAny_newList ?_ (by rw [hal, ← hl]; exact h16))
  have hoL : (h'.push (seqObj "list" acc.toList.toArray 0)).get? h'.objs.size = some (seqObj "list" acc.toList.toArray 0) := Heap.get?_push_size _ rfl
  show wpAny _ _ _ _ _ { s with heap := h'.push (seqObj "list" acc.toList.toArray 0), toks := tk }
  refine wpAny_bind (wpAny_holding (wpAny_call_entry PyProof.Rows.slot_list_sort ⟨_, hoL, rfl⟩ PyProof.Rows.entry_list_sort
    (SrtO.list_sort_ord (s := { s with heap := h'.push (seqObj "list" acc.toList.toArray 0), toks := tk }) SrtO.swo_int hoL (by rw [hal, ← hl]; exact h16) (fun h2 => SrtO.ints_sortable hS h2) fun out g1 g2 => ⟨_, rfl, ?_⟩) (PyProof.Rows.args_list_sort _)))
  obtain ⟨k1, k2, k3⟩ := SrtO.ints_out hS g1 g2
  obtain ⟨e', he'⟩ := PyProof.Rows.sortedHeap_at (vs := acc.toList) (out := out.toArray) hoL
  have hlen : ((out.map SrtO.iv).map V.int).length ≤ sizeLine := by
    rw [List.length_map, k2.length_eq, ← hl]
    exact h16
  refine wpAny_pure ⟨_, rfl, .ref h'.objs.size, upd H h'.objs.size (.lst ((out.map SrtO.iv).map V.int)), I1.laid (t' := tk) (fun b u e => ?_) (Nat.le_refl _)
    (show ObjOk X.prog X.w _ _ _ (.lst ((out.map SrtO.iv).map V.int)) from ⟨hlen, out, e', vals_of_ints k1, he'⟩), rfl, q _ _ k2 k3 (I1.hok.fresh (Nat.le_refl _))⟩
  have hb : b < h'.objs.size := Heap.lt_size e
  rw [PyProof.Rows.sortedHeap_old (Nat.ne_of_lt hb) (by rw [size_push']; exact Nat.lt_succ_of_lt hb)]
  exact Heap.get?_push_of_some _ e
end
end L2
namespace SrtH
open PySem PySem.Spec PyProof.Rows L2 PySem.W
noncomputable def hLt : Key → Key → Bool
  | .inl a, .inl b => decide (a < b)
  | .inr a, .inr b => decide (a.cps.toList < b.cps.toList)
  | .inl _, .inr _ => true
  | .inr _, .inl _ => false
theorem hLt_swo : SrtO.Swo hLt := by
  refine ⟨fun x y h => ?_, fun x y z h1 h2 => ?_⟩
  · rcases x with x | x <;> rcases y with y | y <;> simp only [hLt, decide_eq_true_eq, decide_eq_false_iff_not] at h ⊢
    · omega
    · cases h
    · exact fun z => List.lt_irrefl _ (List.lt_trans h z)
  · rcases x with x | x <;> rcases y with y | y <;> rcases z with z | z <;> simp only [hLt, decide_eq_false_iff_not] at h1 h2 ⊢
    all_goals first | omega | (cases h1; done) | (cases h2; done) | skip
    · exact fun q => List.not_lt.mpr (List.le_trans (List.not_lt.mp h1) (List.not_lt.mp h2)) q
/-- a tuple whose first is k -/
noncomputable def IsHd (h : Heap) (v : Value) (k : Key) : Prop := ∃ a o u its n, v = .ref a ∧ h.get? a = some o ∧ o.cls = .type "tuple" ∧ o.data = .seq (u :: its : List Value).toArray n ∧ RelV (kV k) u
theorem IsHd.keeps {h h' : Heap} {v : Value} {k : Key} (p : IsHd h v k) (kk : ∀ b o, h.get? b = some o → o.cls = .type "tuple" → h'.get? b = some o) : IsHd h' v k := by
  obtain ⟨a, o, u, its, n, e, ho, hc, hd, r⟩ := p
  exact ⟨a, o, u, its, n, e, kk _ _ ho hc, hc, hd, r⟩
theorem firsts {h : Heap} {k : Value → Key} : ∀ vs : List Value, (∀ v ∈ vs, IsHd h v (k v)) → ∃ fs : List Value, KatTups h vs fs ∧ fs.length = vs.length ∧ ∀ f ∈ fs, ∃ v ∈ vs, RelV (kV (k v)) f
  | [], _ => ⟨[], KatTups.nil, rfl, fun f hf => by cases hf⟩
  | v :: vs, H => by
    obtain ⟨fs, h1, h2, h3⟩ := firsts vs fun u hu => H u (List.mem_cons_of_mem _ hu)
    obtain ⟨a, o, u, its, n, e, ho, hc, hd, r⟩ := H v (by simp)
    subst e
    refine ⟨u :: fs, KatTups.cons ho hc hd rfl h1, by simp [h2], fun f hf => ?_⟩
    rcases List.mem_cons.mp hf with rfl | hf
    · exact ⟨_, by simp, r⟩
    · obtain ⟨w, hw, r'⟩ := h3 f hf
      exact ⟨w, List.mem_cons_of_mem _ hw, r'⟩
section
variable {prog : Program} {w : World} {A : Around} {E : Value → Shared → Prop} {s : Shared}
theorem lex_same {b fin : Bool} {Q : Bool → Shared → Prop} (hq : Q fin s) : ∀ (l : List Value) (i : Nat), KatLex prog w A b fin Q (l.zip l) i s
  | [], i => kat_nil hq
  | v :: l, i => kat_cons (SeqAt.EqAt.same v prog w _ _ (kat_yes (lex_same hq l (i + 1))))
theorem hd_cmp {vs : List Value} {k : Value → Key} (hp : ∀ v ∈ vs, IsHd s.heap v (k v)) (one : (∀ v ∈ vs, ∃ i, k v = .inl i) ∨ ∀ v ∈ vs, ∃ t, k v = .inr t) (inj : ∀ v ∈ vs, ∀ u ∈ vs, k v = k u → v = u) : SrtO.Cmp prog w A s (tuples' true) (fun p => p.1 ∈ vs) (SrtO.lt2 fun v u => hLt (k v) (k u)) := by
  intro p q hm hm'
  show wpAny (model prog w) A (keyLt' (tuples' true) p.1 q.1) (fun r s' => s' = s ∧ r = hLt (k p.1) (k q.1)) (fun _ _ => False) s
  have hm : p.1 ∈ vs := hm
  have hm' : q.1 ∈ vs := hm'
  generalize p.1 = v at hm
  generalize q.1 = v' at hm'
  obtain ⟨a, o, u, its, n, e, ho, hc, hd, r⟩ := hp _ hm
  obtain ⟨a', o', u', its', n', e', ho', hc', hd', r'⟩ := hp _ hm'
  by_cases hk : k v = k v'
  · have hvv := inj _ hm _ hm' hk
    rw [← hvv] at e' ⊢
    rw [e] at e'
    cases e'
    rw [ho] at ho'
    cases ho'
    rw [hd] at hd'
    injection hd' with hd1 hd2
    rw [show hLt (k v) (k v) = false from hLt_swo.refl _, e]
    refine kat_lt ho hd ho hd (lex_same ⟨rfl, ?_⟩ _ _)
    simp
  · rw [e, e']
    refine kat_lt ho hd ho' hd' ?_
    show KatLex prog w A true _ _ ((u, u') :: its.zip its') 0 s
    rcases one with one | one
    · obtain ⟨i, hi⟩ := one _ hm
      obtain ⟨j, hj⟩ := one _ hm'
      rw [hi] at r hk
      rw [hj] at r' hk
      obtain ⟨t1, rfl⟩ := r
      obtain ⟨t2, rfl⟩ := r'
      refine kat_cons (SeqAt.EqAt.int_int i t1 j t2 prog w _ _ ?_)
      have hne : (i == j) = false := by
        simp only [beq_eq_false_iff_ne, ne_eq]
        exact fun z => hk (by rw [z])
      rw [hne]
      refine kat_no ?_
      refine oneLt_int ⟨rfl, ?_⟩
      rw [← e, ← e', hi, hj]
      rfl
    · obtain ⟨i, hi⟩ := one _ hm
      obtain ⟨j, hj⟩ := one _ hm'
      rw [hi] at r hk
      rw [hj] at r' hk
      obtain ⟨t1, rfl⟩ := r
      obtain ⟨t2, rfl⟩ := r'
      refine kat_cons (SeqAt.EqAt.str_str i t1 j t2 prog w _ _ ?_)
      have hne : (i == j) = false := by
        simp only [beq_eq_false_iff_ne, ne_eq]
        exact fun z => hk (by rw [z])
      rw [hne]
      refine kat_no ?_
      refine oneLt_str ⟨rfl, ?_⟩
      rw [← e, ← e', hi, hj]
      rfl
theorem hd_sortable {a : Addr} {vs : List Value} {k : Value → Key} (h0 : 0 < vs.length) (hp : ∀ v ∈ vs, IsHd s.heap v (k v)) (one : (∀ v ∈ vs, ∃ i, k v = .inl i) ∨ ∀ v ∈ vs, ∃ t, k v = .inr t) (inj : ∀ v ∈ vs, ∀ u ∈ vs, k v = k u → v = u)
    (ha : ∀ o, s.heap.get? a = some o → o.cls ≠ .type "tuple") : SrtO.SortableO prog w A s a vs fun v u => hLt (k v) (k u) := by
  intro h' keep
  have hp' : ∀ v ∈ vs, IsHd h' v (k v) := fun v hm => (hp v hm).keeps fun b o e c => keep b o (fun z => by subst z; exact ha o e c) e
  obtain ⟨fs, h1, h2, h3⟩ := firsts vs hp'
  refine ⟨tuples' true, fun Q E hq => ?_, hd_cmp (s := { s with heap := h' }) hp' one inj⟩
  rcases one with one | one
  · refine PySem.W.kat_kind (T := .type "int") h1 (by omega) (fun f hmf => ?_) (by rfl) ?_
    · obtain ⟨v, hv, r⟩ := h3 f (by assumption)
      obtain ⟨i, hi⟩ := one v hv
      rw [hi] at r
      obtain ⟨t, rfl⟩ := r
      exact PySem.W.Looks.now
    · have e : (Value.type "int" != Value.type "tuple") = true := by first | decide +kernel | rfl | decide
      rw [e]
      exact hq
  · refine PySem.W.kat_kind (T := .type "str") h1 (by omega) (fun f hmf => ?_) (by rfl) ?_
    · obtain ⟨v, hv, r⟩ := h3 f (by assumption)
      obtain ⟨i, hi⟩ := one v hv
      rw [hi] at r
      obtain ⟨t, rfl⟩ := r
      exact PySem.W.Looks.now
    · have e : (Value.type "str" != Value.type "tuple") = true := by first | decide +kernel | rfl | decide
      rw [e]
      exact hq
end
/-- sorted(xs) of tuples with unlike firsts -/
noncomputable def rSortedH (K : PySem.W.Frag) : List V → Hp → VK → Prop := fun vs H Q => ∃ (a : Addr) (xs : List V) (hs : List Key), vs = [V.ref a] ∧ SqL K H a xs ∧ hs.length = xs.length ∧ (∀ p ∈ xs.zip hs, ∃ t r, p.1 = V.ref t ∧ SqT K H t (kV p.2 :: r)) ∧
  ((∀ k ∈ hs, ∃ i, k = .inl i) ∨ ∀ k ∈ hs, ∃ t, k = .inr t) ∧ hs.Nodup ∧
  ∀ (zs : List (V × Key)) p, zs.Perm (xs.zip hs) → zs.Pairwise (fun x y => hLt y.2 x.2 = false) → H p = none → Q (.ref p) (upd H p (.lst (zs.map (·.1))))
theorem zip_inj {α β : Type} : ∀ {xs : List α} {hs : List β}, hs.Nodup → ∀ {x y : α} {k : β}, (x, k) ∈ xs.zip hs → (y, k) ∈ xs.zip hs → x = y
  | [], _, _, _, _, _, h, _ => by simp at h
  | _ :: _, [], _, _, _, _, h, _ => by simp at h
  | a :: xs, b :: hs, nd, x, y, k, h1, h2 => by
    obtain ⟨n1, n2⟩ := List.nodup_cons.mp nd
    simp only [List.zip_cons_cons, List.mem_cons, Prod.mk.injEq] at h1 h2
    rcases h1 with ⟨rfl, rfl⟩ | h1 <;> rcases h2 with ⟨rfl, h2⟩ | h2
    · rfl
    · exact absurd (List.of_mem_zip h2).2 n1
    · subst h2; exact absurd (List.of_mem_zip h1).2 n1
    · exact zip_inj n2 h1 h2
section
variable {X : Cx}
theorem cr_sortedH : CallR X (.builtin "sorted") (rSortedH X.K) := by
  intro pins s σ H vs us Q I r h
  obtain ⟨a, xs, hs, rfl, hsq, hlen, hx, one, nd, q⟩ := h
  obtain ⟨its, rv, hl, hz⟩ := I.list hsq
  obtain ⟨u, rfl, ru⟩ := vals1 r
  obtain rfl : u = Value.ref a := ru
  have mem : ∀ x ∈ xs, ∃ k, (x, k) ∈ xs.zip hs := fun x hm => by
    obtain ⟨i, hi, e⟩ := List.mem_iff_getElem.mp hm
    refine ⟨hs[i]'(by omega), ?_⟩
    rw [← e]
    exact List.mem_iff_getElem.mpr ⟨i, by rw [List.length_zip]; omega, by rw [List.getElem_zip]⟩
  obtain ⟨k, hk⟩ : ∃ k : V → Key, ∀ x ∈ xs, (x, k x) ∈ xs.zip hs := by
    have hh : ∀ x, ∃ k, x ∈ xs → (x, k) ∈ xs.zip hs := fun x => (Classical.em (x ∈ xs)).elim (fun hm => (mem x hm).imp fun k h _ => h) fun hm => ⟨.inl 0, fun z => absurd z hm⟩
    exact ⟨fun x => Classical.choose (hh x), fun x hm => Classical.choose_spec (hh x) hm⟩
  have only : ∀ x k', (x, k') ∈ xs.zip hs → k' = k x := fun x k' h => by
    obtain ⟨t, r1, e, h1⟩ := hx _ h
    obtain ⟨t', r2, e', h2⟩ := hx _ (hk x (List.of_mem_zip h).1)
    have e : x = .ref t := e
    have e' : x = .ref t' := e'
    rw [e] at e'
    cases e'
    have := I.tuple_inj h1 h2
    have e3 := (List.cons.inj this).1
    have e3 : kV k' = kV (k x) := e3
    cases hk1 : k' <;> cases hk2 : k x <;> rw [hk1, hk2] at e3 <;> cases e3 <;> rfl
  have ezip : xs.zip hs = xs.map fun x => (x, k x) := by
    have e1 : (xs.zip hs).map (·.1) = xs := List.map_fst_zip (by omega)
    have e2 : (xs.zip hs).map (fun p => (p.1, k p.1)) = xs.zip hs := by
      conv => rhs; rw [← List.map_id (xs.zip hs)]
      refine List.map_congr_left fun p hp => ?_
      obtain ⟨x, k'⟩ := p
      show (x, k x) = (x, k')
      rw [only x k' hp]
    rw [← e2]
    conv => rhs; rw [← e1]
    rw [List.map_map]
    rfl
  have inj : ∀ x ∈ xs, ∀ y ∈ xs, k x = k y → x = y := fun x hm y hm' e => by
    have h1 := hk x hm
    have h2 := hk y hm'
    rw [← e] at h2
    exact zip_inj nd h1 h2
  have one : (∀ x ∈ xs, ∃ i, k x = .inl i) ∨ ∀ x ∈ xs, ∃ t, k x = .inr t := by
    rcases one with one | one
    · exact .inl fun x hm => one _ (List.of_mem_zip (hk x hm)).2
    · exact .inr fun x hm => one _ (List.of_mem_zip (hk x hm)).2
  obtain ⟨e1, e2⟩ := refs_back rv fun x m => by
    obtain ⟨t, _, e, _⟩ := hx _ (hk x m)
    exact ⟨t, e⟩
  have bm : ∀ v ∈ its, backV v ∈ xs := fun v hv => by rw [e1]; exact List.mem_map.mpr ⟨_, hv, rfl⟩
  have hd : ∀ v ∈ its, IsHd s.heap v (k (backV v)) := fun v hv => by
    obtain ⟨t, rfl⟩ := e2 v hv
    obtain ⟨t', r, e, ht⟩ := hx _ (hk _ (bm _ hv))
    cases e
    obtain ⟨its2, r2, ⟨o, ho, hc, n, hdd⟩, _⟩ := I.tuple ht
    obtain ⟨u1, us, rfl, r3, _⟩ : ∃ u1 us, its2 = u1 :: us ∧ RelV (kV (k (backV (.ref t)))) u1 ∧ Vals r us := by
      cases r2 with
      | cons h1 h2 => exact ⟨_, _, rfl, h1, h2⟩
    exact ⟨t, o, u1, us, n, rfl, ho, hc, hdd, r3⟩
  refine SrtO.sorted_ord (s := s) (ltv := fun v u => hLt (k (backV v)) (k (backV u))) ⟨fun x y => hLt_swo.asym _ _, fun x y z => hLt_swo.tr _ _ _⟩ hl.isList (by rw [← rv.length]; exact hz) (fun h2 h₁ b hb kk => ?_) fun out h1 h2 => ?_
  · refine hd_sortable (s := { s with heap := h₁ }) (by omega) (fun v hm => (hd v hm).keeps fun b o e _ => (kk b o e).2) ?_ ?_ fun o e => ?_
    · rcases one with one | one
      · exact .inl fun v hv => one _ (bm v hv)
      · exact .inr fun v hv => one _ (bm v hv)
    · intro v hv u hu e
      have := inj _ (bm v hv) _ (bm u hu) e
      obtain ⟨t, rfl⟩ := e2 v hv
      obtain ⟨t', rfl⟩ := e2 u hu
      cases this
      rfl
    · have e' := e.symm.trans hb
      cases e'
      intro c
      exact absurd (Value.type.inj c) (by decide)
  · have h3 : ∀ u ∈ out, ∃ a, u = Value.ref a := fun u hu => e2 u (h2.perm.mem_iff.mp hu)
    obtain ⟨n, hn⟩ := PyProof.Rows.sortedAll_at s.heap its out.toArray
    have hp : (out.map backV).Perm xs := by
      rw [e1]
      exact h2.perm.map backV
    have hq := q ((out.map backV).map fun x => (x, k x)) (s.heap.objs.size + 1) (by rw [ezip]; exact hp.map _) (List.pairwise_map.mpr (List.pairwise_map.mpr h1)) (I.hok.fresh (Nat.le_succ _))
    rw [List.map_map, show ((fun p : V × Key => p.1) ∘ fun x => (x, k x)) = id from rfl, List.map_id] at hq
    refine ⟨.ref (s.heap.objs.size + 1), upd H (s.heap.objs.size + 1) (.lst (out.map backV)), I.laid (t' := s.toks) (fun b o e => PyProof.Rows.sortedAll_old e) (Nat.le_succ _) ⟨?_, out, n, vals_back h3, hn⟩, rfl, hq⟩
    rw [hp.length_eq]
    exact hz
end
theorem perm_map_ex {α β : Type} {f : α → β} {zs ys : List β} (h : zs.Perm ys) : ∀ {ws : List α}, ys = ws.map f → ∃ ws' : List α, ws'.Perm ws ∧ ws'.map f = zs := by
  induction h with
  | nil => intro ws e; cases ws with
    | nil => exact ⟨[], .refl _, rfl⟩
    | cons _ _ => cases e
  | cons x _ ih => intro ws e; cases ws with
    | nil => cases e
    | cons w ws =>
      simp only [List.map_cons, List.cons.injEq] at e
      obtain ⟨ws', h1, h2⟩ := ih e.2
      exact ⟨w :: ws', h1.cons w, by simp [h2, e.1]⟩
  | swap x y l => intro ws e; match ws, e with
    | a :: b :: ws, e =>
      simp only [List.map_cons, List.cons.injEq] at e
      exact ⟨b :: a :: ws, .swap _ _ _, by simp [e.1, e.2.1, e.2.2]⟩
  | trans _ _ ih1 ih2 =>
    intro ws e
    obtain ⟨w2, h1, h2⟩ := ih2 e
    obtain ⟨w3, h3, h4⟩ := ih1 h2.symm
    exact ⟨w3, h3.trans h1, h4⟩
end SrtH
namespace Mp
open PySem PySem.Spec PyProof.Rows L2
section
open Builtin Builtin.Str StrLaws
theorem occ_done (s sub : Str) (hi : Nat) : ∀ (l : List Nat) (st : Array Nat × Nat), st.fst.size = 1 → (forIn l st (occBody s sub hi 1)).run.fst = st.fst
  | [], st, h => rfl
  | a :: l, st, h => by
    rw [List.forIn_cons]
    unfold occBody
    rw [if_neg (by intro z; have := z.1.1.1; omega)]
    exact occ_done s sub hi l (st.fst, st.snd) h
theorem occ_first (s sub : Str) (hi : Nat) : ∀ (l : List Nat) (free : Nat), (∀ i ∈ l, free ≤ i) →
    (forIn l ((#[] : Array Nat), free) (occBody s sub hi 1)).run.fst = match l.find? (fun i => decide (i + sub.length ≤ hi ∧ subAt s sub i = true)) with
      | some i => #[i]
      | none => #[]
  | [], _, _ => rfl
  | a :: l, free, hf => by
    rw [List.forIn_cons, List.find?_cons]
    have ha : free ≤ a := hf a (List.mem_cons_self ..)
    by_cases hc : a + sub.length ≤ hi ∧ subAt s sub a = true
    · rw [decide_eq_true hc]
      unfold occBody
      rw [if_pos ⟨⟨⟨by simp, ha⟩, hc.1⟩, hc.2⟩]
      exact occ_done s sub hi l _ rfl
    · rw [decide_eq_false hc]
      unfold occBody
      rw [if_neg (fun h => hc ⟨h.1.2, h.2⟩)]
      exact occ_first s sub hi l free (fun i hi' => hf i (List.mem_cons_of_mem _ hi'))
theorem find_range {p : Nat → Bool} {k : Nat} : ∀ (m a : Nat), a ≤ k → k < a + m → p k = true → (∀ j, a ≤ j → j < k → p j = false) → (List.range' a m).find? p = some k
  | 0, a, h1, h2, _, _ => by omega
  | m + 1, a, h1, h2, h3, h4 => by
    rw [List.range'_succ, List.find?_cons]
    by_cases e : a = k
    · subst e
      rw [h3]
    · rw [h4 a (Nat.le_refl _) (by omega)]
      exact find_range m (a + 1) (by omega) (by omega) h3 fun j hj => h4 j (by omega)
theorem idxOfS_get {c : Nat} : ∀ {s : List Nat} {n k : Nat}, idxOfS c s n = some k → n ≤ k ∧ s[k - n]? = some c ∧ ∀ j, n ≤ j → j < k → s[j - n]? ≠ some c
  | [], n, k, h => by simp [idxOfS] at h
  | x :: s, n, k, h => by
    unfold idxOfS at h
    split at h
    · rename_i e
      cases h
      exact ⟨Nat.le_refl _, by simp [e], fun j h1 h2 => by omega⟩
    · rename_i e
      obtain ⟨h1, h2, h3⟩ := idxOfS_get h
      refine ⟨by omega, ?_, fun j hj1 hj2 => ?_⟩
      · rw [show k - n = (k - (n + 1)) + 1 by omega, List.getElem?_cons_succ]
        exact h2
      · by_cases ej : j = n
        · subst ej
          simp
          exact e
        · rw [show j - n = (j - (n + 1)) + 1 by omega, List.getElem?_cons_succ]
          exact h3 j (by omega) hj2
theorem index0_one {s : List Nat} {c k : Nat} (h : idxOfS c s 0 = some k) : Txt.index0 ⟨s.toArray⟩ ⟨#[c]⟩ = some k := by
  obtain ⟨_, h1, h2⟩ := idxOfS_get h
  unfold Txt.index0
  rw [occ_eq, occ_first _ _ _ _ _ (fun _ _ => Nat.zero_le _)]
  obtain ⟨hl, _⟩ := List.getElem?_eq_some_iff.mp h1
  have hlen : (⟨s.toArray⟩ : Str).length = s.length := rfl
  rw [find_range (k := k) _ 0 (Nat.zero_le _) (by rw [hlen]; simp at hl; omega)]
  · rfl
  · exact decide_eq_true ((subAt_one ⟨s.toArray⟩ c k).mpr (by simpa using h1))
  · intro j _ hj
    refine decide_eq_false fun z => ?_
    have := (subAt_one ⟨s.toArray⟩ c j).mp z
    exact h2 j (Nat.zero_le _) hj (by simpa using this)
end
section
variable {c : Cx0} {n : Nat} {X : Cx} {K : Ck} {L Z Z' : Addr → Prop} {σ : L2.St} {H H1 H2 : Hp} {ρ ρ1 ρ2 : Rho} {G G1 G2 : Hh} {f ex : Addr → Prop} {x y v : V} {u w : U} {Qm : Kc} {Q : VK} {a b d : E} {e1 e2 e3 : Expr} {pos p2 : Pos} {r : R} {ca : Cs} {Γ : Cal}
/-- the end with a new tuple -/
theorem EndE.newTup {us : List U} {vs : List V} {p : Addr} (h : EndE c X L Z σ H f Qm Q) (R : Rep c.ca X.K L Z' σ H2 ρ2 G2) (hz : ∀ a, Z a → Z' a) (hx : Ext H f H2 (fp σ ρ2 G2)) (hp : H2 p = none) (q : RepUs X.K H2 (Or2 (fp σ ρ2 G2) Z') us vs) (k : Qm (.u (.tup us)) ρ2 G2) : Q (.ref p) (upd H2 p (.tup vs)) := by
  have hk : ∀ a o, H2 a = some o → upd H2 p (.tup vs) a = some o := fun a o e => by
    rw [upd_ne (ne_of_none e hp)]; exact e
  have np : ¬ Or2 (fp σ ρ2 G2) Z' p := fun z => by
    rcases z with z | z
    · obtain ⟨o, e, _⟩ := R.mut z
      rw [hp] at e; cases e
    · obtain ⟨_, o, e⟩ := R.zd _ z
      rw [hp] at e; cases e
  refine h.ofU (R.heapExt hk) hz (fun a o e n => ⟨hk a o (hx a o e n).1, (hx a o e n).2⟩) (u := .tup us) ?_ k
  simp only [RepU]
  exact ⟨p, vs, rfl, .inl ⟨.inl upd_same, np⟩, RepUs.ext (fun a o e n => ⟨hk a o e, n⟩) _ q⟩
theorem allInt_out {ex : Addr → Prop} : ∀ {xs : List U} {ns : List Int} {vs : List V}, allInt xs = some ns → RepUs X.K H ex xs vs → vs = ns.map V.int
  | [], ns, vs, e, q => by
    simp [allInt] at e
    simp only [RepUs] at q
    rw [e, q]; rfl
  | x :: xs, ns, vs, e, q => by
    cases x <;> simp only [allInt] at e <;> try (cases e)
    simp only [RepUs] at q
    obtain ⟨v, t, e1, q1, q2⟩ := q
    cases ei : allInt xs with
    | none => rw [ei] at e; cases e
    | some ms =>
      rw [ei] at e
      cases e
      simp only [RepU] at q1
      rw [e1, q1, allInt_out ei q2]
      rfl
theorem allBl_out {ex : Addr → Prop} : ∀ {xs : List U} {ns : List Bool} {vs : List V}, allBl xs = some ns → RepUs X.K H ex xs vs → vs = ns.map V.bl
  | [], ns, vs, e, q => by
    simp [allBl] at e
    simp only [RepUs] at q
    rw [e, q]; rfl
  | x :: xs, ns, vs, e, q => by
    cases x <;> simp only [allBl] at e <;> try (cases e)
    simp only [RepUs] at q
    obtain ⟨v, t, e1, q1, q2⟩ := q
    cases ei : allBl xs with
    | none => rw [ei] at e; cases e
    | some ms =>
      rw [ei] at e
      cases e
      simp only [RepU] at q1
      rw [e1, q1, allBl_out ei q2]
      rfl
theorem allStr_out {ex : Addr → Prop} : ∀ {xs : List U} {ns : List (List Nat)} {vs : List V}, allStr xs = some ns → RepUs X.K H ex xs vs → vs = (ns.map strS).map V.str ∧ ∀ s ∈ ns, GoodS s
  | [], ns, vs, e, q => by
    simp [allStr] at e
    simp only [RepUs] at q
    rw [e, q]; exact ⟨rfl, fun _ h => by simp at h⟩
  | x :: xs, ns, vs, e, q => by
    cases x <;> simp only [allStr] at e <;> try (cases e)
    simp only [RepUs] at q
    obtain ⟨v, t, e1, q1, q2⟩ := q
    cases ei : allStr xs with
    | none => rw [ei] at e; cases e
    | some ms =>
      rw [ei] at e
      cases e
      simp only [RepU] at q1
      obtain ⟨h1, h2⟩ := allStr_out ei q2
      rw [e1, q1.1, h1]
      exact ⟨rfl, fun s hs => (List.mem_cons.mp hs).elim (fun z => by rw [z]; exact q1.2) (h2 s)⟩
theorem insI_perm (x : Int) : ∀ ys : List Int, (insertI x ys).Perm (x :: ys)
  | [] => .refl _
  | y :: ys => by
    unfold insertI
    split
    · exact .refl _
    · exact ((insI_perm x ys).cons y).trans (.swap x y ys)
theorem sortI_perm : ∀ xs : List Int, (sortI xs).Perm xs
  | [] => .refl _
  | x :: xs => (insI_perm x _).trans ((sortI_perm xs).cons x)
theorem insI_rises (x : Int) : ∀ ys : List Int, ys.Pairwise (· ≤ ·) → (insertI x ys).Pairwise (· ≤ ·)
  | [], _ => by simp [insertI]
  | y :: ys, h => by
    rw [List.pairwise_cons] at h
    unfold insertI
    split
    · rename_i hxy
      rw [List.pairwise_cons]
      exact ⟨fun z hz => (List.mem_cons.mp hz).elim (fun e => by rw [e]; exact hxy) fun hz => Int.le_trans hxy (h.1 z hz), by rw [List.pairwise_cons]; exact h⟩
    · rename_i hxy
      rw [List.pairwise_cons]
      refine ⟨fun z hz => ?_, insI_rises x ys h.2⟩
      rcases List.mem_cons.mp ((insI_perm x ys).mem_iff.mp hz) with e | hz
      · rw [e]; omega
      · exact h.1 z hz
theorem sortI_rises : ∀ xs : List Int, (sortI xs).Pairwise (· ≤ ·)
  | [] => .nil
  | x :: xs => insI_rises x _ (sortI_rises xs)
theorem sortI_only {ns ms : List Int} (hp : ns.Perm ms) (hs : ns.Pairwise (· ≤ ·)) : ns = sortI ms :=
  List.Perm.eq_of_pairwise (fun _ _ _ _ a b => Int.le_antisymm a b) hs (sortI_rises ms) (hp.trans (sortI_perm ms).symm)
theorem insS_perm (x : List Nat) : ∀ ys : List (List Nat), (insertS x ys).Perm (x :: ys)
  | [] => .refl _
  | y :: ys => by
    unfold insertS
    split
    · exact .refl _
    · exact ((insS_perm x ys).cons y).trans (.swap x y ys)
theorem sortS_perm : ∀ xs : List (List Nat), (sortS xs).Perm xs
  | [] => .refl _
  | x :: xs => (insS_perm x _).trans ((sortS_perm xs).cons x)
theorem insS_rises (x : List Nat) : ∀ ys : List (List Nat), ys.Pairwise (· ≤ ·) → (insertS x ys).Pairwise (· ≤ ·)
  | [], _ => by simp [insertS]
  | y :: ys, h => by
    rw [List.pairwise_cons] at h
    unfold insertS
    split
    · rename_i hxy
      rw [List.pairwise_cons]
      exact ⟨fun z hz => (List.mem_cons.mp hz).elim (fun e => by rw [e]; exact hxy) fun hz => List.le_trans hxy (h.1 z hz), by rw [List.pairwise_cons]; exact h⟩
    · rename_i hxy
      rw [List.pairwise_cons]
      refine ⟨fun z hz => ?_, insS_rises x ys h.2⟩
      rcases List.mem_cons.mp ((insS_perm x ys).mem_iff.mp hz) with e | hz
      · rw [e]; exact (List.le_total x y).resolve_left hxy
      · exact h.1 z hz
theorem sortS_rises : ∀ xs : List (List Nat), (sortS xs).Pairwise (· ≤ ·)
  | [] => .nil
  | x :: xs => insS_rises x _ (sortS_rises xs)
theorem risingS_pw : ∀ (ys : List Str) (p : Str), risingS p ys = true → (p :: ys).Pairwise fun a b => a.cps.toList ≤ b.cps.toList
  | [], p, _ => by simp
  | y :: ys, p, h => by
    simp only [risingS, Bool.and_eq_true, Bool.not_eq_true', ltCps_eq, decide_eq_false_iff_not] at h
    have ih := risingS_pw ys y h.2
    rw [List.pairwise_cons]
    refine ⟨fun z hz => ?_, ih⟩
    rcases List.mem_cons.mp hz with e | hz
    · rw [e]; exact h.1
    · exact List.le_trans (show p.cps.toList ≤ y.cps.toList from h.1) ((List.pairwise_cons.mp ih).1 z hz)
theorem sortedS_pw {ys : List Str} (h : sortedS ys = true) : ys.Pairwise fun a b => a.cps.toList ≤ b.cps.toList := by
  cases ys with
  | nil => exact .nil
  | cons y ys => exact risingS_pw ys y h
theorem strS_list (s : List Nat) : (strS s).cps.toList = s := by simp [strS]
theorem sortS_only {ss : List (List Nat)} {ys : List Str} (hp : ys.Perm (ss.map strS)) (hs : sortedS ys = true) : ys = (sortS ss).map strS := by
  have h1 : (ys.map fun y => y.cps.toList).Perm ss := by
    have := hp.map fun y : Str => y.cps.toList
    rw [List.map_map] at this
    rwa [show ((fun y : Str => y.cps.toList) ∘ strS) = id from funext fun s => strS_list s, List.map_id] at this
  have h2 : (ys.map fun y => y.cps.toList).Pairwise (· ≤ ·) := List.pairwise_map.mpr (sortedS_pw hs)
  have h3 : (ys.map fun y => y.cps.toList) = sortS ss := List.Perm.eq_of_pairwise (fun _ _ _ _ a b => List.le_antisymm a b) h2 (sortS_rises ss) (h1.trans (sortS_perm ss).symm)
  rw [← h3, List.map_map]
  conv => lhs; rw [← List.map_id ys]
  refine List.map_congr_left fun y _ => ?_
  obtain ⟨⟨y⟩⟩ := y
  rfl
theorem keys_ints : ∀ {kvs : List (Key × V)} {ns : List Int}, allInt (kvs.map fun p => kKey p.1) = some ns → kvs.map (·.1) = ns.map Sum.inl
  | [], ns, h => by cases h; rfl
  | (.inl i, v) :: kvs, ns, h => by
    have h : (allInt (kvs.map fun p => kKey p.1)).map (i :: ·) = some ns := h
    cases e : allInt (kvs.map fun p => kKey p.1) with
    | none => rw [e] at h; cases h
    | some ms => rw [e] at h; cases h; simp [keys_ints e]
  | (.inr s, v) :: kvs, ns, h => by simp [kKey, allInt] at h
theorem keys_strs : ∀ {kvs : List (Key × V)} {ss : List (List Nat)}, allStr (kvs.map fun p => kKey p.1) = some ss → kvs.map (·.1) = (ss.map strS).map Sum.inr
  | [], ns, h => by cases h; rfl
  | (.inr s, v) :: kvs, ns, h => by
    have h : (allStr (kvs.map fun p => kKey p.1)).map (s.cps.toList :: ·) = some ns := h
    cases e : allStr (kvs.map fun p => kKey p.1) with
    | none => rw [e] at h; cases h
    | some ms =>
      rw [e] at h
      cases h
      simp only [List.map_cons, keys_strs e]
      congr 1
  | (.inl i, v) :: kvs, ns, h => by simp [kKey, allStr] at h
theorem repUs_ints' {Hx : Hp} {ex : Addr → Prop} {Kf : PySem.W.Frag} : ∀ ns : List Int, RepUs Kf Hx ex (ns.map U.int) (ns.map V.int)
  | [] => by simp [RepUs]
  | k :: ns => by
    simp only [List.map_cons, RepUs]
    exact ⟨_, _, rfl, by simp only [RepU], repUs_ints' ns⟩
theorem repUs_strs' {Hx : Hp} {ex : Addr → Prop} {Kf : PySem.W.Frag} : ∀ ss : List (List Nat), (∀ s ∈ ss, GoodS s) → RepUs Kf Hx ex (ss.map U.str) ((ss.map strS).map V.str)
  | [], _ => by simp [RepUs]
  | s :: ss, h => by
    simp only [List.map_cons, RepUs]
    exact ⟨_, _, rfl, by simp only [RepU]; exact ⟨rfl, h s (by simp)⟩, repUs_strs' ss fun t ht => h t (by simp [ht])⟩
theorem repUs_keys {Hx : Hp} {ex : Addr → Prop} {Kf : PySem.W.Frag} : ∀ {kvs : List (Key × V)}, (∀ s, U.str s ∈ kvs.map (fun p => kKey p.1) → GoodS s) → RepUs Kf Hx ex (kvs.map fun p => kKey p.1) (kvs.map fun kv => kV kv.1)
  | [], _ => by simp [RepUs]
  | (.inl i, v) :: kvs, h => by
    simp only [List.map_cons, RepUs]
    exact ⟨_, _, rfl, by simp only [kKey, kV, RepU], repUs_keys fun s hs => h s (List.mem_cons_of_mem _ hs)⟩
  | (.inr s, v) :: kvs, h => by
    simp only [List.map_cons, RepUs]
    refine ⟨_, _, rfl, ?_, repUs_keys fun s hs => h s (List.mem_cons_of_mem _ hs)⟩
    simp only [kKey, kV, RepU]
    refine ⟨trivial, h _ ?_⟩
    simp [kKey]
/-- pairs as they lie -/
noncomputable def PRep (K : PySem.W.Frag) (H : Hp) (ex : Addr → Prop) : List (U × U) → List (Key × V) → Prop := Paired fun p kv => p.1 = kKey kv.1 ∧ RepU K H ex p.2 kv.2
theorem pairs_rep {K : PySem.W.Frag} {H : Hp} {ex : Addr → Prop} : ∀ {xs : List U} (ps : List (U × U)) {vs : List V}, pairsU xs = some ps → RepUs K H ex xs vs →
    ∃ (qs : List Addr) (kvs : List (Key × V)), vs = qs.map V.ref ∧ Paired (fun p kv => SqT K H p [kV kv.1, kv.2]) qs kvs ∧ PRep K H ex ps kvs
  | [], ps, vs, e, r => by
    cases e
    simp only [RepUs] at r
    subst r
    exact ⟨[], [], rfl, .nil, .nil⟩
  | x :: xs, ps, vs, e, r => by
    unfold pairsU at e
    cases x <;> try (cases e)
    rename_i ys
    simp only at e
    match ys, e, r with
    | [k, v], e, r =>
      simp only at e
      split at e
      · rename_i hk
        cases ei : pairsU xs with
        | none => rw [ei] at e; cases e
        | some qs =>
          rw [ei] at e
          cases e
          simp only [RepUs] at r
          obtain ⟨v1, t, e1, r1, r2⟩ := r
          subst e1
          obtain ⟨as, kvs, e3, h1, h2⟩ := pairs_rep qs ei r2
          simp only [RepU, RepUs] at r1
          obtain ⟨a, ws, e4, ta, vk, w2, e5, rk, vv, w3, e6, rv, e7⟩ := r1
          subst e4 e5 e6 e7 e3
          obtain ⟨kk, k1, k2⟩ := key_out hk rk
          subst k1 k2
          exact ⟨a :: as, (kk, vv) :: kvs, rfl, .cons (sqT_of ta) h1, .cons ⟨rfl, rv⟩ h2⟩
      · cases e
theorem merge_rep {K : PySem.W.Frag} {H : Hp} {ex : Addr → Prop} : ∀ (kvs : List (Key × V)) {ps : List (U × U)} (q : PRep K H ex ps kvs) {acc : List (Key × V)} {ws : List U}, RepUs K H ex ws (acc.map (·.2)) →
    (mergeD ps (acc.map fun p => kKey p.1) ws).1 = (mergeK acc kvs).map (fun p => kKey p.1) ∧ RepUs K H ex (mergeD ps (acc.map fun p => kKey p.1) ws).2 ((mergeK acc kvs).map (·.2))
  | [], ps, q, acc, ws, r => by
    cases q
    exact ⟨rfl, r⟩
  | kv :: kvs, ps, q, acc, ws, r => by
    cases q with
    | @cons p _ ps _ h t =>
      obtain ⟨k, v⟩ := p
      obtain ⟨h1, h2⟩ := h
      simp only at h1 h2
      obtain ⟨d1, d2⟩ := putD_rep kv.1 h2 acc r
      have ih := merge_rep kvs t (acc := putK acc kv.1 kv.2) (ws := putDv (acc.map fun p => kKey p.1) ws (kKey kv.1) v) d2
      rw [← d1] at ih
      subst h1
      exact ih
noncomputable def Bf.val : Bf → Value
  | .rev => .type "reversed" | .lrev => .type "reversed" | .maxz => .builtin "max" | .maxm => .builtin "max" | .tdict => .type "dict" | .lset => .type "set" | .sset => .type "set" | .lsa => .type "set" | .int => .type "int" | .str => .type "str" | .list => .type "list" | .tuple => .type "tuple" | .dict => .type "dict"
  | b => .builtin b.name
noncomputable def rBf (w : World) (K : PySem.W.Frag) : Bf → List V → Hp → VK → Prop
  | .len => fun xs H Q => (∃ x n, xs = [x] ∧ LenV K x H n ∧ Q (.int n) H) ∨ (∃ a kvs, xs = [V.ref a] ∧ Rd H a (.dK kvs) ∧ Q (.int kvs.length) H) ∨ ∃ ex ks ws x, xs = [x] ∧ Vw w K H ex (.dit ks ws) x ∧ Q (.int ks.length) H
  | .int => fun xs H Q => ((∃ i, xs = [.int i] ∧ Q (.int i) H) ∨ ∃ k, xs = [.bl k] ∧ Q (.int (if k then 1 else 0)) H) ∨ ∃ a n, xs = [.str a] ∧ PySem.intText? a = some n ∧ a.length ≤ 640 ∧ Q (.int n) H
  | .list => fun xs H Q => (∃ p ys, xs = [.ref p] ∧ (SqL K H p ys ∨ SqT K H p ys) ∧ ∀ l, H l = none → Q (.ref l) (upd H l (.lst ys))) ∨
      (∃ (a : Addr) (kvs : List (Key × V)), xs = [.ref a] ∧ Rd H a (.dK kvs) ∧ ∀ p, H p = none → Q (.ref p) (upd H p (.lst (kvs.map fun kv => kV kv.1)))) ∨
      ∃ ex ks ws x, xs = [x] ∧ Vw w K H ex (.dit ks ws) x ∧ ∀ p bs, H p = none → RepUs K H ex ks bs → Q (.ref p) (upd H p (.lst bs))
  | .tuple => fun xs H Q => ∃ p ys, xs = [.ref p] ∧ ((SqL K H p ys ∧ ∀ l, H l = none → Q (.ref l) (upd H l (.tup ys))) ∨ (SqT K H p ys ∧ Q (.ref p) H))
  | .abs => fun xs H Q => ∃ i, xs = [.int i] ∧ Q (.int (if i < 0 then -i else i)) H
  | .sum => rSum K
  | .all => rAll K
  | .max => fun xs H Q => (∃ i j, xs = [.int i, .int j] ∧ Q (.int (if j > i then j else i)) H) ∨ rMax K xs H Q
  | .min => fun xs H Q => (∃ i j, xs = [.int i, .int j] ∧ Q (.int (if j < i then j else i)) H) ∨ rMin K xs H Q
  | .dict => fun xs H Q => (∃ (a : Addr) (kvs : List (Key × V)), xs = [.ref a] ∧ Rd H a (.dK kvs) ∧ ∀ p, H p = none → Q (.ref p) (upd H p (.dK kvs))) ∨
      ∃ (a : Addr) (ps : List Addr) (kvs : List (Key × V)), xs = [.ref a] ∧ SqL K H a (ps.map V.ref) ∧ Paired (fun p kv => SqT K H p [kV kv.1, kv.2]) ps kvs ∧ ∀ p, H p = none → Q (.ref p) (upd H p (.dK (mergeK [] kvs)))
  | .str => fun xs H Q => ∃ i, xs = [.int i] ∧ i.natAbs.log2 < 1920 ∧ Q (.str (toString i)) H
  | .sorted => fun xs H Q => ((rSortedI K xs H Q ∨ rSortedS K xs H Q) ∨ (∃ (a : Addr) (kvs : List (Key × V)) (ks : List Int), xs = [.ref a] ∧ Rd H a (.dK kvs) ∧ kvs.map (·.1) = ks.map Sum.inl ∧
      ∀ (ys : List Int) (p : Addr), ys.Perm ks → ys.Pairwise (· ≤ ·) → H p = none → Q (.ref p) (upd H p (.lst (ys.map V.int)))) ∨
      ∃ (a : Addr) (kvs : List (Key × V)) (ks : List Str), xs = [.ref a] ∧ Rd H a (.dK kvs) ∧ kvs.map (·.1) = ks.map Sum.inr ∧ ks.length < 64 ∧
        ∀ ys p, ys.Perm ks → sortedS ys = true → H p = none → Q (.ref p) (upd H p (.lst (ys.map V.str)))) ∨ SrtH.rSortedH K xs H Q
  | .tdict => fun xs H Q => ∃ (ex : Addr → Prop) (us : List U) (ps : List (U × U)) (x : V), xs = [x] ∧ Vw w K H ex (.lst us) x ∧ pairsT us = some ps ∧ ∀ p zs vs, H p = none → (p == sysModules) = false → zs.length ≤ sizeLine → (zs.map (·.1)).Nodup → KeyR K H ex (mergeD ps [] []).1 zs → Vals vs (zs.map (·.2.2)) → RepUs K H ex (mergeD ps [] []).2 vs → Q (.ref p) (upd H p (.ext (DitR w p zs)))
  | _ => fun _ _ _ => False
theorem keyR_len {K : PySem.W.Frag} {H : Hp} {ex : Addr → Prop} {ks : List U} {xs : List (NestedKey × Addr × Value)} (h : KeyR K H ex ks xs) : ks.length = xs.length := Paired.length h
section
variable {prog : Program} {w : World} {A : Around} {o : Obj} {es : Array DictEntry} {ep : Nat}
theorem walks_raw (hh : A.handled = none) (I d : Addr) (hne : d ≠ I) (hd : o.data = .dict es ep) :
    Walks prog w A I [I, d] [I] es.size (fun i v => ∃ en : DictEntry, es[i]? = some en ∧ v = en.key) (fun i h => h.IsKeyIter I d i es.size ep ∧ h.get? d = some o) where
  sub := fun b hb => by simp at hb; simp [hb]
  frame := fun _ _ _ st hk => ⟨st.1.at fun ob e => hk I (by simp) ob e, hk d (by simp) o st.2⟩
  item := fun i s Q E hi st hQ => by
    have hx : es[i]? = some es[i] := Array.getElem?_eq_getElem hi
    refine next_key_item st.1 st.2 hd rfl hx fun h' hit' sb => ?_
    exact hQ _ h' s.toks ⟨_, hx, rfl⟩ ⟨hit', (sb.2 d hne).trans st.2⟩ fun b ob hb e => (sb.2 b (fun z => hb (by simp [z]))).trans e
  done := fun s Q E st hQ => next_key_end hh st.1 st.2 hd rfl (Nat.le_refl _) fun h' he' => hQ h' s.toks fun b ob hb e => he' b ob (fun z => hb (by simp [z])) e
  self := fun _ _ _ _ st hQ => wpAny_pyIter_keyiter st.1 hQ
theorem kdl_raw {d : Addr} (lo : (d == sysModules) = false) (hx : o.ExactDict) (hd : o.data = .dict es ep) :
    PySem.W.KdlSrc prog w "dict" d d es.size (fun i v => ∃ en : DictEntry, es[i]? = some en ∧ v = en.key) (fun h => h.get? d = some o) where
  type := fun _ hm => ⟨o, hm, hx.1⟩
  there := fun _ hm => ⟨Heap.lt_size hm, Heap.lt_size hm⟩
  keep := fun _ _ hm hk => hk d (.inl rfl) _ hm
  notList := by decide
  notTuple := by decide
  hint := fun _ _ s _ hm hq => PySem.W.kdl_hint_dict (s := s) ⟨o, hm, hx.1⟩ hq
  iter := fun _ s hh hm => ⟨_, _, (fun _ _ hq => iter_keys lo hm hx hd hq), walks_raw hh _ d (Nat.ne_of_lt (Heap.lt_size hm)) hd, ⟨⟨_, Heap.get?_push_size _ rfl, rfl, rfl⟩, Heap.get?_push_of_some _ hm⟩⟩
end
theorem vals_refs : ∀ bs : List Addr, Vals (bs.map V.ref) (bs.map Value.ref)
  | [] => .nil
  | _ :: r => .cons rfl (vals_refs r)
theorem ditK_of {X : Cx} {pins : List (Addr × Obj)} {σ : L2.St} {H : Hp} {s : Shared} (I : Inv X pins σ H s) {ex : Addr → Prop} {ks ws : List U} {x : V} (h : Vw X.w X.K H ex (.dit ks ws) x) :
    ∃ a xs, x = .ref a ∧ (a == sysModules) = false ∧ xs.length ≤ sizeLine ∧ s.heap.DictOfH (nestedKind X.prog X.w) a xs ∧ KeyR X.K H ex ks xs := by
  obtain ⟨a, o, rfl, hr, xs, vs, rfl, n, z1, nd, kr, hv, r⟩ := h
  exact ⟨a, xs, rfl, n, z1, dit_of I hr nd kr, kr⟩
theorem call_lenT {X : Cx} : CallR X (.builtin "len") (fun xs H Q => ∃ ex ks ws x, xs = [x] ∧ Vw X.w X.K H ex (.dit ks ws) x ∧ Q (.int ks.length) H) := by
  intro pins s σ H xs us Q I r h
  obtain ⟨ex, ks, ws, x, rfl, hv, q⟩ := h
  obtain ⟨a, zs, rfl, hd, hz, dd, kr⟩ := ditK_of I hv
  obtain ⟨u, rfl, ru⟩ := vals1 r
  cases ru
  have hm : s.heap.DictKeyed (nestedKind X.prog X.w) a (pairsH zs) := ⟨zs, dd, rfl⟩
  have el : (pairsH zs).length = ks.length := by rw [pairsH_length, keyR_len kr]
  refine PyProof.Rows.call_len_slot (n := ((pairsH zs).length : Int)) hm.typeIs F.slot_dict_len (fun Q' hq => len_keyed hd hm hq) (by omega) (by rw [el, keyR_len kr]; rw [sizeLine_eq] at hz; omega) ?_
  rw [el]
  exact ⟨.int ks.length, H, I.tok _, ⟨_, rfl⟩, q⟩
theorem ditO_new {P : Program} {w : World} {H : Hp} {h : Heap} {a : Addr} {xs : List (NestedKey × Addr × Value)} (d : h.DictOfH (nestedKind P w) a xs) : ObjOk P w H h a (.ext (DitR w a xs)) := by
  obtain ⟨o, es, ep, h1, h2, h3, h4, _⟩ := d
  exact ⟨⟨o, es, ep, h1, h2, h3, h4⟩, ⟨o, h1⟩, fun g1 g2 ⟨o, es, ep, k1, k2, k3, k4⟩ k => ⟨o, es, ep, k o k1, k2, k3, k4⟩⟩
theorem ditH_nd {P : Program} {w : World} {h : Heap} {a : Addr} {xs : List (NestedKey × Addr × Value)} (d : h.DictOfH (nestedKind P w) a xs) : (xs.map (·.1)).Nodup := by
  obtain ⟨o, es, ep, h1, h2, h3, h4, _, nd⟩ := d
  exact nd
/-- pairs (key, value) with tuples as keys, as they lie -/
theorem pairsT_rep {K : PySem.W.Frag} {H : Hp} {ex : Addr → Prop} : ∀ {xs : List U} (ps : List (U × U)) {vs : List V}, pairsT xs = some ps → RepUs K H ex xs vs →
    ∃ (qs : List Addr) (kvs : List (Addr × V)), vs = qs.map V.ref ∧ Paired (fun p kv => SqT K H p [.ref kv.1, kv.2]) qs kvs ∧ Paired (fun (p : U × U) (kv : Addr × V) => keyT p.1 = true ∧ RepU K H ex p.1 (.ref kv.1) ∧ RepU K H ex p.2 kv.2) ps kvs
  | [], ps, vs, e, r => by
    cases e
    simp only [RepUs] at r
    subst r
    exact ⟨[], [], rfl, .nil, .nil⟩
  | x :: xs, ps, vs, e, r => by
    unfold pairsT at e
    cases x <;> try (cases e)
    rename_i ys
    simp only at e
    match ys, e, r with
    | [k, v], e, r =>
      simp only at e
      split at e
      · rename_i hk
        cases ei : pairsT xs with
        | none => rw [ei] at e; cases e
        | some qs =>
          rw [ei] at e
          cases e
          simp only [RepUs] at r
          obtain ⟨v1, t, e1, r1, r2⟩ := r
          subst e1
          obtain ⟨as, kvs, e3, h1, h2⟩ := pairsT_rep qs ei r2
          simp only [RepU, RepUs] at r1
          obtain ⟨a, ws, e4, ta, vk, w2, e5, rk, vv, w3, e6, rv, e7⟩ := r1
          subst e4 e5 e6 e7 e3
          obtain ⟨b, eb⟩ : ∃ b, vk = V.ref b := by
            cases k <;> try (cases hk; done)
            simp only [RepU] at rk
            obtain ⟨a, _, e, _⟩ := rk
            exact ⟨a, e⟩
          subst eb
          exact ⟨a :: as, (b, vv) :: kvs, rfl, .cons (sqT_of ta) h1, .cons ⟨hk, rk, rv⟩ h2⟩
      · cases e
theorem pairsT_of {X : Cx} {pins : List (Addr × Obj)} {σ : L2.St} {H : Hp} {s : Shared} (I : Inv X pins σ H s) {ex : Addr → Prop} : ∀ {ps : List (U × U)} {qs : List Addr} {kvs : List (Addr × V)}, Paired (fun p kv => SqT X.K H p [.ref kv.1, kv.2]) qs kvs →
    Paired (fun (p : U × U) (kv : Addr × V) => keyT p.1 = true ∧ RepU X.K H ex p.1 (.ref kv.1) ∧ RepU X.K H ex p.2 kv.2) ps kvs →
    ∃ zs : List (NestedKey × Addr × Value), Paired (fun (p : U × U) (z : NestedKey × Addr × Value) => keyT p.1 = true ∧ z.1 = kN p.1 ∧ RepU X.K H ex p.1 (.ref z.2.1) ∧ ∃ v, RelV v z.2.2 ∧ RepU X.K H ex p.2 v) ps zs ∧ zs.length = qs.length ∧
      ∀ (j : Nat) (z : NestedKey × Addr × Value), zs[j]? = some z → (nestedKind X.prog X.w).is s.heap z.1 z.2.1 ∧ ∃ b : Addr, qs[j]? = some b ∧ PairAt s.heap b (.ref z.2.1) z.2.2
  | _, _, _, .nil, .nil => ⟨[], .nil, rfl, fun j q e => by simp at e⟩
  | _, _, _, .cons (a := p) (b := kv) h t, .cons (a := pu) g u => by
    obtain ⟨zs, r, hl, hp⟩ := pairsT_of I t u
    obtain ⟨its, rv, ht, _⟩ := I.tuple h
    obtain ⟨x, y, ei, rx, ry⟩ := vals2 rv
    subst ei
    cases rx
    refine ⟨(kN pu.1, kv.1, y) :: zs, .cons ⟨g.1, rfl, g.2.1, _, ry, g.2.2⟩ r, by rw [List.length_cons, List.length_cons, hl], fun j q e => ?_⟩
    cases j with
    | zero =>
      have e' : (kN pu.1, kv.1, y) = q := Option.some.inj e
      subst e'
      obtain ⟨o, ho, hc, n, hd⟩ := ht
      exact ⟨key_is I g.1 g.2.1, p, rfl, .inl ⟨o, ho, hc, n, hd⟩⟩
    | succ j =>
      obtain ⟨z0, b, e1, e2⟩ := hp j q (by simpa using e)
      exact ⟨z0, b, by simpa using e1, e2⟩
theorem mergeT_rep {K : PySem.W.Frag} {H : Hp} {ex : Addr → Prop} : ∀ {ps : List (U × U)} {zs : List (NestedKey × Addr × Value)}, Paired (fun (p : U × U) (z : NestedKey × Addr × Value) => keyT p.1 = true ∧ z.1 = kN p.1 ∧ RepU K H ex p.1 (.ref z.2.1) ∧ ∃ v, RelV v z.2.2 ∧ RepU K H ex p.2 v) ps zs →
    ∀ {acc : List (NestedKey × Addr × Value)} {ks ws : List U} {vs : List V}, KeyR K H ex ks acc → Vals vs (acc.map (·.2.2)) → RepUs K H ex ws vs →
    KeyR K H ex (mergeD ps ks ws).1 (storedAllH acc zs) ∧ ∃ vs', Vals vs' ((storedAllH acc zs).map (·.2.2)) ∧ RepUs K H ex (mergeD ps ks ws).2 vs'
  | _, _, .nil, acc, ks, ws, vs, kr, hv, r => ⟨kr, vs, hv, r⟩
  | _, _, .cons (a := p) (b := z) h t, acc, ks, ws, vs, kr, hv, r => by
    obtain ⟨h1, h2, h3, v, h4, h5⟩ := h
    obtain ⟨k1, vs', k2, k3⟩ := putT_rep (x := z.2.2) h1 h3 h5 h4 kr hv r
    rw [← h2] at k1 k2
    exact mergeT_rep t k1 k2 k3
theorem call_dictT {X : Cx} (hu : X.A.units + 64 < cLine) (hcalm : X.calm = true) : CallR X (.type "dict") (fun xs H Q => ∃ (ex : Addr → Prop) (us : List U) (ps : List (U × U)) (x : V), xs = [x] ∧ Vw X.w X.K H ex (.lst us) x ∧ pairsT us = some ps ∧ ∀ p zs vs, H p = none → (p == sysModules) = false → zs.length ≤ sizeLine → (zs.map (·.1)).Nodup → KeyR X.K H ex (mergeD ps [] []).1 zs → Vals vs (zs.map (·.2.2)) → RepUs X.K H ex (mergeD ps [] []).2 vs → Q (.ref p) (upd H p (.ext (DitR X.w p zs)))) := by
  intro pins s σ H xs us Q I r q
  obtain ⟨ex, ul, ps, x, rfl, ⟨a, vl, rfl, hq, rl⟩, ep, q⟩ := q
  obtain ⟨u, eu, rx⟩ := vals1 r
  subst eu
  cases rx
  obtain ⟨qs, kvs, rfl, h1, h2⟩ := pairsT_rep ps ep rl
  obtain ⟨its, rv, pl, hz⟩ := I.list hq
  have ei := refs_at rv
  subst ei
  rw [List.length_map] at hz
  obtain ⟨zs, rel, hl, hpr⟩ := pairsT_of I h1 h2
  have P := PairArg.list (prog := X.prog) (w := X.w) a (qs.map Value.ref).toArray (fun j => (qs[j]?).getD 0) (zs.map fun z => (Value.ref z.2.1, z.2.2))
  have ist : ∀ z ∈ zs, (nestedKind X.prog X.w).is s.heap z.1 z.2.1 := fun z hz => by
    obtain ⟨j, hj⟩ := List.getElem?_of_mem hz
    exact (hpr j z hj).1
  obtain ⟨m1, vs', m2, m3⟩ := mergeT_rep rel (acc := []) (ks := []) (ws := []) (vs := []) .nil .nil (by simp only [RepUs])
  have hm : (s.heap.objs.size == sysModules) = false := beq_eq_false_iff_ne.mpr (Nat.ne_of_gt I.big)
  have hlen : (storedAllH [] zs).length ≤ sizeLine := by
    refine Nat.le_trans (storedAllH_length zs []) ?_
    rw [List.length_nil, Nat.zero_add, hl]
    exact hz
  refine call_dict_pairsH (knd := nestedKind X.prog X.w) (ps := zs) P (I.ok.hd hcalm) (by show X.A.units + 1 + 1 + 8 < cLine; omega) ⟨pl, by simp [hl], fun j k v e => ?_⟩ ⟨by simp, fun j k v e => ?_⟩ (fun h' hk x hx => ?_) (by rw [List.length_map, hl]; exact hz) fun h' tk hd' k => ?_
  · rw [List.getElem?_map] at e
    cases ez : zs[j]? with
    | none => rw [ez] at e; cases e
    | some z =>
      rw [ez] at e
      cases e
      obtain ⟨_, b, e1, e2⟩ := hpr j z ez
      exact ⟨by simp [e1], by simpa [e1] using e2⟩
  · rw [PairRel, List.getElem?_map] at e
    cases ez : zs[j]? with
    | none => rw [ez] at e; cases e
    | some z =>
      rw [ez] at e
      cases e
      exact ⟨z.1, z.2.1, rfl, rfl⟩
  · refine nestedKind_stays.stays (fun b o vs n hb hd => hk b o (fun e => ?_) (by simp) hb) (ist x hx)
    rw [e] at hb
    exact absurd (Heap.lt_size hb) (Nat.lt_irrefl _)
  · exact ⟨.ref s.heap.objs.size, _, I.laid (t' := tk) (fun b o e => k b o (by simp) e) (Nat.le_refl _) (ditO_new hd'), rfl, q _ _ _ (I.hok.fresh (Nat.le_refl _)) hm hlen (ditH_nd hd') m1 m2 m3⟩
theorem keyR_refs {K : PySem.W.Frag} {H : Hp} {ex : Addr → Prop} : ∀ {ks : List U} {xs : List (NestedKey × Addr × Value)}, KeyR K H ex ks xs → RepUs K H ex ks (xs.map fun x => V.ref x.2.1)
  | [], _, .nil => by simp only [List.map_nil, RepUs]
  | k :: ks, x :: xs, .cons h t => by
    simp only [List.map_cons, RepUs]
    exact ⟨_, _, rfl, h.2.2, keyR_refs t⟩
theorem call_listT {X : Cx} (hc : X.calm = true) : CallR X (.type "list") (fun xs H Q => ∃ ex ks ws x, xs = [x] ∧ Vw X.w X.K H ex (.dit ks ws) x ∧ ∀ p bs, H p = none → RepUs X.K H ex ks bs → Q (.ref p) (upd H p (.lst bs))) := by
  intro pins s σ H xs us Q I r h
  obtain ⟨ex, ks0, ws, x, rfl, hv, q⟩ := h
  obtain ⟨d, ks, rfl, hs, z, dd, kr⟩ := ditK_of I hv
  obtain ⟨u, rfl, rx⟩ := r.one
  cases rx
  obtain ⟨o, es, ep, ho, hx, hdt, he, _, hn⟩ := dd
  have l1 : es.size = ks.length := size_of_entries he
  refine PySem.W.kdl_call (kdl_raw hs hx hdt) (I.ok.hd hc) ho (by omega) fun h' tk acc' c' kp e it => ?_
  have ea : acc'.toList = ks.map fun x => Value.ref x.2.1 := by
    have hl : acc'.toList.length = ks.length := by rw [Array.length_toList, it.1]; exact l1
    apply List.ext_getElem?
    intro j
    rw [List.getElem?_map]
    cases hj : acc'.toList[j]? with
    | none =>
      have h1 := List.getElem?_eq_none_iff.mp hj
      rw [List.getElem?_eq_none (by omega)]
      all_goals rfl
    | some v =>
      obtain ⟨en, hen, hv⟩ := it.2 j v (by rw [← Array.getElem?_toList]; exact hj)
      have qe := entry_at he j
      rw [hen] at qe
      cases hb : ks[j]? with
      | none =>
        rw [hb] at qe
        exact nomatch (show some en = none from qe)
      | some b =>
        rw [hb] at qe
        have e2 : en = entryOfKey (nestedKind X.prog X.w) b := Option.some.inj qe
        rw [hv, e2]
        all_goals rfl
  have eb : acc'.toList = (ks.map fun x => x.2.1).map Value.ref := by rw [ea, List.map_map]; all_goals rfl
  have rv : Vals ((ks.map fun x => x.2.1).map V.ref) acc'.toList := by rw [eb]; exact vals_refs _
  have hz : ((ks.map fun x => x.2.1).map V.ref).length ≤ sizeLine := by rw [List.length_map, List.length_map]; omega
  have rr := keyR_refs kr
  rw [show (ks.map fun x => V.ref x.2.1) = (ks.map fun x => x.2.1).map V.ref by rw [List.map_map]; rfl] at rr
  refine ⟨.ref s.heap.objs.size, _, I.laid (t' := tk) (o := .lst ((ks.map fun x => x.2.1).map V.ref)) kp (Nat.le_refl _) ?_, rfl, q _ _ (I.hok.fresh (Nat.le_refl _)) rr⟩
  exact ⟨hz, acc'.toList, c', rv, by rw [Array.toArray_toList]; exact e⟩
theorem call_lenR : CallR X (.builtin "len") (fun xs H Q => ∃ a kvs, xs = [V.ref a] ∧ Rd H a (.dK kvs) ∧ Q (.int kvs.length) H) := by
  intro pins s σ H xs us Q I r h
  obtain ⟨a, kvs, rfl, ha, q⟩ := h
  obtain ⟨u, rfl, ru⟩ := vals1 r
  cases ru
  exact d_len I ha fun t s' I' => ⟨.int kvs.length, H, I', ⟨t, rfl⟩, q⟩
theorem cr_bf (hu : X.A.units + 64 < cLine) (hc : X.calm = true) : ∀ b : Bf, CallR X b.val (rBf X.w X.K b)
  | .len => call_len.or (CallR.or call_lenR call_lenT)
  | .int => CallR.or call_int1 call_int_str
  | .list => CallR.or call_list_of (CallR.or (call_listD hc) (call_listT hc))
  | .tdict => call_dictT hu hc
  | .tuple => call_tuple_of
  | .abs => call_abs
  | .sum => cr_sum hc
  | .all => cr_all hc
  | .max => CallR.or (call_max2 hc) (cr_max hc)
  | .min => CallR.or (call_min2 hc) (cr_min hc)
  | .dict => CallR.or call_dictD (call_dictP hc)
  | .str => call_str_int
  | .rev => fun _ _ _ _ _ _ _ _ _ h => h.elim
  | .lset => fun _ _ _ _ _ _ _ _ _ h => h.elim
  | .sset => fun _ _ _ _ _ _ _ _ _ h => h.elim
  | .lsa => fun _ _ _ _ _ _ _ _ _ h => h.elim
  | .lrev => fun _ _ _ _ _ _ _ _ _ h => h.elim
  | .maxz => fun _ _ _ _ _ _ _ _ _ h => h.elim
  | .maxm => fun _ _ _ _ _ _ _ _ _ h => h.elim
  | .any => fun _ _ _ _ _ _ _ _ _ h => h.elim
  | .sorted => CallR.or (CallR.or (CallR.or cr_sortedI cr_sortedS) (CallR.or (call_sortedDA hc) (call_sortedD hc))) SrtH.cr_sortedH
theorem boot_bf : ∀ b : Bf, bootBuiltins (Str.ofString b.name) = some b.val := by
  intro b
  cases b <;> decide +kernel
theorem goodU_out {s : List Nat} (h : goodU (.str s) = true) : GoodS s := by
  simp only [goodU, Bool.and_eq_true, decide_eq_true_eq, List.all_eq_true] at h
  exact h
theorem allStr_mem : ∀ {xs : List U} {ss : List (List Nat)} {s : List Nat}, allStr xs = some ss → s ∈ ss → U.str s ∈ xs
  | [], ss, s, e, h => by cases e; cases h
  | x :: xs, ss, s, e, h => by
    cases x <;> simp only [allStr] at e <;> try (cases e)
    cases ei : allStr xs with
    | none => rw [ei] at e; cases e
    | some ms =>
      rw [ei] at e
      cases e
      rcases List.mem_cons.mp h with z | z
      · rw [z]; simp
      · exact List.mem_cons_of_mem _ (allStr_mem ei z)
theorem sortU_out {xs : List U} {K : Mp.R → Prop} (h : sortU xs K) : (∃ ns, allInt xs = some ns ∧ K (.tmp (.lst ((sortI ns).map U.int)))) ∨ (∃ ss, allStr xs = some ss ∧ ss.length < 64 ∧ K (.tmp (.lst ((sortS ss).map U.str)))) ∨ allInt xs = none ∧ ((∃ hs, headsI xs = some hs ∧ hs.Nodup) ∨ ∃ hs, headsS xs = some hs ∧ hs.Nodup) ∧ K (.tmp (.lst (sortH xs))) := by
  unfold sortU at h
  split at h
  · rename_i ns e; exact .inl ⟨ns, e, h⟩
  · rename_i e0
    split at h
    · rename_i ss e; exact .inr (.inl ⟨ss, e, h.1, h.2⟩)
    · split at h
      · rename_i hs e; exact .inr (.inr ⟨e0, .inl ⟨hs, e, h.1⟩, h.2⟩)
      · split at h
        · rename_i hs e; exact .inr (.inr ⟨e0, .inr ⟨hs, e, h.1⟩, h.2⟩)
        · exact h.elim
theorem insH_perm (x : U) : ∀ ys : List U, (insertH x ys).Perm (x :: ys)
  | [] => .refl _
  | y :: ys => by
    unfold insertH
    split
    · exact .refl _
    · exact ((insH_perm x ys).cons y).trans (.swap x y ys)
theorem sortH_perm : ∀ xs : List U, (sortH xs).Perm xs
  | [] => .refl _
  | x :: xs => (insH_perm x _).trans ((sortH_perm xs).cons x)
/-- the first of a tuple -/
noncomputable def hdK : U → Option Key
  | .tup (.int i :: _) => some (.inl i)
  | .tup (.str s :: _) => some (.inr (strS s))
  | _ => none
theorem strS_list' (s : List Nat) : (strS s).cps.toList = s := by simp [strS]
theorem hLe_hd {x y : U} {a b : Key} (hx : hdK x = some a) (hy : hdK y = some b) (one : (∃ i j, a = .inl i ∧ b = .inl j) ∨ ∃ s t, a = .inr s ∧ b = .inr t) : hLe x y = !SrtH.hLt b a := by
  unfold hdK at hx hy
  split at hx
  · cases hx
    split at hy
    · cases hy
      simp only [hLe, SrtH.hLt]
      rw [← decide_not]
      exact decide_eq_decide.mpr (by omega)
    · cases hy
      rcases one with ⟨i, j, _, e⟩ | ⟨s, t, e, _⟩ <;> cases e
    · cases hy
  · cases hx
    split at hy
    · cases hy
      rcases one with ⟨i, j, e, _⟩ | ⟨s, t, _, e⟩ <;> cases e
    · cases hy
      simp only [hLe, SrtH.hLt, strS_list']
      rw [← decide_not]
      exact decide_eq_decide.mpr (by rw [List.not_lt])
    · cases hy
  · cases hx
theorem hLt_tot (a b : Key) (h1 : SrtH.hLt a b = false) (h2 : SrtH.hLt b a = false) : a = b := by
  rcases a with a | a <;> rcases b with b | b <;> simp only [SrtH.hLt, decide_eq_false_iff_not] at h1 h2
  · congr 1; omega
  · cases h1
  · cases h2
  · have := List.le_antisymm (List.not_lt.mp h2) (List.not_lt.mp h1)
    obtain ⟨⟨a⟩⟩ := a
    obtain ⟨⟨b⟩⟩ := b
    simp only at this
    rw [this]
theorem insH_rises {P : U → Prop} (tot : ∀ x y, P x → P y → hLe x y = true ∨ hLe y x = true) (tr : ∀ x y z, P x → P y → P z → hLe x y = true → hLe y z = true → hLe x z = true) (x : U) (hx : P x) : ∀ ys : List U, (∀ y ∈ ys, P y) → ys.Pairwise (fun a b => hLe a b = true) → (insertH x ys).Pairwise fun a b => hLe a b = true
  | [], _, _ => by simp [insertH]
  | y :: ys, hp, h => by
    rw [List.pairwise_cons] at h
    have py := hp y (by simp)
    have pys : ∀ z ∈ ys, P z := fun z hz => hp z (List.mem_cons_of_mem _ hz)
    unfold insertH
    split
    · rename_i hxy
      rw [List.pairwise_cons]
      exact ⟨fun z hz => (List.mem_cons.mp hz).elim (fun e => by rw [e]; exact hxy) fun hz => tr x y z hx py (pys z hz) hxy (h.1 z hz), by rw [List.pairwise_cons]; exact h⟩
    · rename_i hxy
      rw [List.pairwise_cons]
      refine ⟨fun z hz => ?_, insH_rises tot tr x hx ys pys h.2⟩
      rcases List.mem_cons.mp ((insH_perm x ys).mem_iff.mp hz) with e | hz
      · rw [e]; exact (tot x y hx py).resolve_left hxy
      · exact h.1 z hz
theorem sortH_rises {P : U → Prop} (tot : ∀ x y, P x → P y → hLe x y = true ∨ hLe y x = true) (tr : ∀ x y z, P x → P y → P z → hLe x y = true → hLe y z = true → hLe x z = true) : ∀ xs : List U, (∀ x ∈ xs, P x) → (sortH xs).Pairwise fun a b => hLe a b = true
  | [], _ => List.Pairwise.nil
  | x :: xs, hp => insH_rises tot tr x (hp x (by simp)) _ (fun y hy => hp y (List.mem_cons_of_mem _ ((sortH_perm xs).mem_iff.mp hy))) (sortH_rises tot tr xs fun y hy => hp y (List.mem_cons_of_mem _ hy))
theorem headsI_hd : ∀ {xs : List U} {hs : List Int}, headsI xs = some hs → xs.map hdK = hs.map fun i => some (.inl i)
  | [], hs, h => by cases h; rfl
  | x :: xs, hs, h => by
    unfold headsI at h
    split at h
    · cases e : headsI xs with
      | none => rw [e] at h; cases h
      | some ms =>
        rw [e] at h
        cases h
        rw [List.map_cons, List.map_cons, headsI_hd e]
        rfl
    · cases h
theorem headsS_hd : ∀ {xs : List U} {hs : List (List Nat)}, headsS xs = some hs → xs.map hdK = hs.map fun i => some (.inr (strS i))
  | [], hs, h => by cases h; rfl
  | x :: xs, hs, h => by
    unfold headsS at h
    split at h
    · cases e : headsS xs with
      | none => rw [e] at h; cases h
      | some ms =>
        rw [e] at h
        cases h
        rw [List.map_cons, List.map_cons, headsS_hd e]
        rfl
    · cases h
/-- from the machine's order to the small one -/
theorem sortH_of {Kf : PySem.W.Frag} {Hx : Hp} {ex : Addr → Prop} {us : List U} {vs : List V} {ks : List Key} (q : RepUs Kf Hx ex us vs) (hk : us.map hdK = ks.map some) (nd : ks.Nodup) (one : (∀ k ∈ ks, ∃ i, k = .inl i) ∨ ∀ k ∈ ks, ∃ t, k = .inr t)
    {zs : List (V × Key)} (hp : zs.Perm (vs.zip ks)) (hs : zs.Pairwise fun x y => SrtH.hLt y.2 x.2 = false) : RepUs Kf Hx ex (sortH us) (zs.map (·.1)) := by
  have hl : us.length = ks.length := by have := congrArg List.length hk; simpa using this
  have hlv := q.length
  have ez : ((us.zip (vs.zip ks)).map (·.2)) = vs.zip ks := List.map_snd_zip (by rw [List.length_zip]; omega)
  obtain ⟨ws, hw, rfl⟩ := SrtH.perm_map_ex (ws := us.zip (vs.zip ks)) hp ez.symm
  have hel : ∀ w ∈ ws, RepU Kf Hx ex w.1 w.2.1 ∧ hdK w.1 = some w.2.2 ∧ w.2.2 ∈ ks := fun w hm => by
    obtain ⟨i, hi, e⟩ := List.mem_iff_getElem.mp (hw.mem_iff.mp hm)
    rw [List.getElem_zip, List.getElem_zip] at e
    have h1 : i < us.length := by rw [List.length_zip] at hi; omega
    have h2 : i < vs.length := by omega
    have h3 : i < ks.length := by omega
    obtain ⟨v, ev, r⟩ := q.get (List.getElem?_eq_getElem h1)
    rw [List.getElem?_eq_getElem h2] at ev
    cases ev
    have e4 : (us.map hdK)[i]'(by rw [List.length_map]; exact h1) = (ks.map some)[i]'(by rw [List.length_map]; exact h3) := by simp only [hk]
    rw [List.getElem_map, List.getElem_map] at e4
    rw [← e]
    exact ⟨r, e4, List.getElem_mem h3⟩
  have rp : ∀ l : List (U × V × Key), (∀ w ∈ l, RepU Kf Hx ex w.1 w.2.1) → RepUs Kf Hx ex (l.map (·.1)) ((l.map (·.2)).map (·.1)) := fun l => by
    induction l with
    | nil => intro _; rfl
    | cons w l ih => intro h; exact ⟨_, _, rfl, h w (by simp), ih fun z hz => h z (List.mem_cons_of_mem _ hz)⟩
  have e1 : ws.map (·.1) = sortH us := by
    have hpu : (ws.map (·.1)).Perm us := by
      have := hw.map (·.1)
      rwa [List.map_fst_zip (by rw [List.length_zip]; omega)] at this
    let P : U → Prop := fun u => ∃ k ∈ ks, hdK u = some k
    have o2 : ∀ {a b : Key}, a ∈ ks → b ∈ ks → (∃ i j, a = .inl i ∧ b = .inl j) ∨ ∃ s t, a = .inr s ∧ b = .inr t := fun {a b} ha hb => by
      rcases one with one | one
      · obtain ⟨i, hi⟩ := one a ha
        obtain ⟨j, hj⟩ := one b hb
        exact .inl ⟨i, j, hi, hj⟩
      · obtain ⟨i, hi⟩ := one a ha
        obtain ⟨j, hj⟩ := one b hb
        exact .inr ⟨i, j, hi, hj⟩
    have hP : ∀ u ∈ us, P u := fun u hu => by
      obtain ⟨w, hm, e⟩ := List.mem_map.mp (hpu.mem_iff.mpr hu)
      obtain ⟨_, h2, h3⟩ := hel w hm
      exact ⟨_, h3, by rw [← e]; exact h2⟩
    have tot : ∀ x y, P x → P y → hLe x y = true ∨ hLe y x = true := fun x y ⟨a, ha, ea⟩ ⟨b, hb, eb⟩ => by
      rw [hLe_hd ea eb (o2 ha hb), hLe_hd eb ea (o2 hb ha)]
      cases h : SrtH.hLt b a with
      | false => exact .inl rfl
      | true => exact .inr (by rw [SrtH.hLt_swo.asym _ _ h]; rfl)
    have tr : ∀ x y z, P x → P y → P z → hLe x y = true → hLe y z = true → hLe x z = true := fun x y z ⟨a, ha, ea⟩ ⟨b, hb, eb⟩ ⟨d, hd, ed⟩ h1 h2 => by
      rw [hLe_hd ea eb (o2 ha hb)] at h1
      rw [hLe_hd eb ed (o2 hb hd)] at h2
      rw [hLe_hd ea ed (o2 ha hd)]
      simp only [Bool.not_eq_true'] at h1 h2 ⊢
      exact SrtH.hLt_swo.tr _ _ _ h1 h2
    refine List.Perm.eq_of_pairwise (le := fun a b => hLe a b = true) (fun a b ha hb h1 h2 => ?_) ?_ (sortH_rises tot tr us hP) (hpu.trans (sortH_perm us).symm)
    · obtain ⟨x, hx, ex1⟩ := hP a (hpu.mem_iff.mp ha)
      obtain ⟨y, hy, ey1⟩ := hP b ((sortH_perm us).mem_iff.mp hb)
      rw [hLe_hd ex1 ey1 (o2 hx hy)] at h1
      rw [hLe_hd ey1 ex1 (o2 hy hx)] at h2
      simp only [Bool.not_eq_true'] at h1 h2
      have e : x = y := hLt_tot _ _ h2 h1
      subst e
      have hz : us.zip ks = us.zip ks := rfl
      have mz : ∀ u ∈ us, hdK u = some x → (u, x) ∈ us.zip ks := fun u hu he => by
        obtain ⟨i, hi, e⟩ := List.mem_iff_getElem.mp hu
        have h3 : i < ks.length := by omega
        have e4 : (us.map hdK)[i]'(by rw [List.length_map]; exact hi) = (ks.map some)[i]'(by rw [List.length_map]; exact h3) := by simp only [hk]
        rw [List.getElem_map, List.getElem_map, e, he] at e4
        refine List.mem_iff_getElem.mpr ⟨i, by rw [List.length_zip]; omega, ?_⟩
        rw [List.getElem_zip, e]
        cases e4
        rfl
      exact SrtH.zip_inj nd (mz a (hpu.mem_iff.mp ha) ex1) (mz b ((sortH_perm us).mem_iff.mp hb) ey1)
    · rw [List.pairwise_map]
      rw [List.pairwise_map] at hs
      refine List.Pairwise.imp_of_mem (fun {w w'} hw1 hw2 h => ?_) hs
      obtain ⟨_, h2, h3⟩ := hel w hw1
      obtain ⟨_, h4, h5⟩ := hel w' hw2
      rw [hLe_hd h2 h4 (o2 h3 h5), h]
      rfl
  rw [← e1]
  exact rp ws fun w hm => (hel w hm).1
theorem tup_hd {Kf : PySem.W.Frag} {Hx : Hp} {ex : Addr → Prop} {u : U} {v : V} {k : Key} (q : RepU Kf Hx ex u v) (h : hdK u = some k) : ∃ t r, v = .ref t ∧ SqT Kf Hx t (kV k :: r) := by
  unfold hdK at h
  split at h
  · cases h
    obtain ⟨t, vs, e, ht, w, r, e2, q1, _⟩ := q
    subst e2
    simp only [RepU] at q1
    subst q1
    exact ⟨t, r, e, sqT_of ht⟩
  · cases h
    obtain ⟨t, vs, e, ht, w, r, e2, q1, _⟩ := q
    subst e2
    simp only [RepU] at q1
    rw [q1.1] at ht
    exact ⟨t, r, e, sqT_of ht⟩
  · cases h
theorem minI_mem : ∀ {ns : List Int}, ns ≠ [] → minI ns ∈ ns ∧ ∀ y ∈ ns, minI ns ≤ y
  | [x], _ => by simp [minI]
  | x :: y :: ns, _ => by
    obtain ⟨h1, h2⟩ := minI_mem (ns := y :: ns) (by simp)
    have e : minI (x :: y :: ns) = min x (minI (y :: ns)) := rfl
    rw [e]
    refine ⟨?_, fun z hz => ?_⟩
    · rcases Int.le_total x (minI (y :: ns)) with q | q
      · rw [Int.min_eq_left q]; simp
      · rw [Int.min_eq_right q]; exact List.mem_cons_of_mem _ h1
    · rcases List.mem_cons.mp hz with q | q
      · rw [q]; exact Int.min_le_left ..
      · exact Int.le_trans (Int.min_le_right ..) (h2 z q)
theorem maxI_mem : ∀ {ns : List Int}, ns ≠ [] → maxI ns ∈ ns ∧ ∀ y ∈ ns, y ≤ maxI ns
  | [x], _ => by simp [maxI]
  | x :: y :: ns, _ => by
    obtain ⟨h1, h2⟩ := maxI_mem (ns := y :: ns) (by simp)
    have e : maxI (x :: y :: ns) = max x (maxI (y :: ns)) := rfl
    rw [e]
    refine ⟨?_, fun z hz => ?_⟩
    · rcases Int.le_total x (maxI (y :: ns)) with q | q
      · rw [Int.max_eq_right q]; exact List.mem_cons_of_mem _ h1
      · rw [Int.max_eq_left q]; simp
    · rcases List.mem_cons.mp hz with q | q
      · rw [q]; exact Int.le_max_left ..
      · exact Int.le_trans (h2 z q) (Int.le_max_right ..)
theorem minI_only {ns : List Int} {m : Int} (hm : m ∈ ns) (h : ∀ y, y ∈ ns → m ≤ y) : m = minI ns := by
  obtain ⟨h1, h2⟩ := minI_mem (ns := ns) (by intro z; rw [z] at hm; cases hm)
  exact Int.le_antisymm (h _ h1) (h2 _ hm)
theorem maxI_only {ns : List Int} {m : Int} (hm : m ∈ ns) (h : ∀ y, y ∈ ns → y ≤ m) : m = maxI ns := by
  obtain ⟨h1, h2⟩ := maxI_mem (ns := ns) (by intro z; rw [z] at hm; cases hm)
  exact Int.le_antisymm (h2 _ hm) (h _ h1)
theorem len_vw {ww : World} (h : Vw ww X.K H ex u x) (nd : ∀ ks vs, u ≠ .dic ks vs) (nd2 : ∀ ks vs, u ≠ .dit ks vs) {k : Nat} (e : bf1 .len u fun r => r = .u (.int k)) : LenV X.K x H k := by
  cases u <;> try exact e.elim
  · simp only [Vw, RepU] at h
    cases e
    rw [h.1]
    exact ⟨h.2.1, rfl⟩
  · simp only [Vw, RepU] at h
    obtain ⟨a, vs, e1, t, q⟩ := h
    cases e
    rw [e1]
    exact .inr ⟨vs, sqT_of t, q.length⟩
  · obtain ⟨a, vs, e1, t, q⟩ := h
    cases e
    rw [e1]
    exact .inl ⟨vs, t, q.length⟩
  · exact absurd rfl (nd _ _)
  · exact absurd rfl (nd2 _ _)
theorem sortD_out {ks : List U} {K : R → Prop} (h : sortD ks K) : (∃ ns, allInt ks = some ns ∧ K (.tmp (.lst ((sortI ns).map U.int)))) ∨ ∃ ss, allStr ks = some ss ∧ ss.length < 64 ∧ ks.all goodU = true ∧ K (.tmp (.lst ((sortS ss).map U.str))) := by
  unfold sortD at h
  split at h
  · exact .inl ⟨_, by assumption, h⟩
  · split at h
    · exact .inr ⟨_, by assumption, h.1.1, h.1.2, h.2⟩
    · exact h.elim
theorem bf1_of {bf : Bf} (nr : bf ≠ .rev ∧ bf ≠ .lset ∧ bf ≠ .lrev ∧ bf ≠ .maxz ∧ bf ≠ .maxm ∧ bf ≠ .sset ∧ bf ≠ .lsa) (R : Rep c.ca X.K L Z' σ H2 ρ2 G2) (hz : ∀ a, Z a → Z' a) (hx : Ext H f H2 (fp σ ρ2 G2)) (en : EndE c X L Z σ H f Qm Q) (ew : c.ca.w = X.w) (hv : Vw c.ca.w X.K H2 (Or2 (fp σ ρ2 G2) Z') u x) (h : bf1 bf u fun r => Qm r ρ2 G2) : rBf X.w X.K bf [x] H2 Q := by
  have fin : ∀ {z : U} {v : V}, RepU X.K H2 (Or2 (fp σ ρ2 G2) Z') z v → Qm (.u z) ρ2 G2 → Q v H2 := fun q k => en.ofU R hz hx q k
  cases bf with
  | len =>
    cases u <;> try exact h.elim
    · exact .inl ⟨x, _, rfl, len_vw hv (fun _ _ z => by cases z) (fun _ _ z => by cases z) rfl, fin (by simp only [RepU]) h⟩
    · exact .inl ⟨x, _, rfl, len_vw hv (fun _ _ z => by cases z) (fun _ _ z => by cases z) rfl, fin (by simp only [RepU]) h⟩
    · exact .inl ⟨x, _, rfl, len_vw hv (fun _ _ z => by cases z) (fun _ _ z => by cases z) rfl, fin (by simp only [RepU]) h⟩
    · obtain ⟨a, kvs, e1, r, e2, q⟩ := hv
      subst e2
      refine .inr (.inl ⟨a, kvs, by rw [e1], r, fin (z := .int (kvs.length : Nat)) (by simp only [RepU]) ?_⟩)
      have h' : Qm (.u (.int (((kvs.map fun p => kKey p.1).length : Nat) : Int))) ρ2 G2 := h
      rwa [List.length_map] at h'
    · rw [ew] at hv
      exact .inr (.inr ⟨_, _, _, x, rfl, hv, fin (by simp only [RepU]) h⟩)
  | int =>
    cases u <;> try exact h.elim
    · simp only [Vw, RepU] at hv
      exact .inl (.inr ⟨_, by rw [hv], fin (by simp only [RepU]) h⟩)
    · simp only [Vw, RepU] at hv
      exact .inl (.inl ⟨_, by rw [hv], fin (by simp only [RepU]) h⟩)
    · simp only [Vw, RepU] at hv
      obtain ⟨n, e1, h⟩ := optK_out h
      exact .inr ⟨_, n, by rw [hv.1], e1, by simpa [Str.length] using h.1, fin (by simp only [RepU]) h.2⟩
  | str =>
    cases u <;> try exact h.elim
    simp only [Vw, RepU] at hv
    rename_i i
    obtain ⟨⟨hb, hg⟩, h⟩ := h
    refine ⟨i, by rw [hv], ?_, fin (z := .str (decS i)) ?_ h⟩
    · rcases Nat.eq_zero_or_pos i.natAbs with z | z
      · rw [z]; decide
      · exact Nat.lt_trans ((Nat.log2_lt (by omega)).mpr hb) (by decide)
    · simp only [RepU]
      refine ⟨?_, goodU_out hg⟩
      simp only [decS, Array.toArray_toList]
  | rev => exact absurd rfl nr.1
  | tdict =>
    cases u <;> try exact h.elim
    rename_i us
    obtain ⟨ps, ep, h⟩ := optK_out h
    refine ⟨_, us, ps, x, rfl, by rw [← ew]; exact hv, ep, fun p zs vs hp hm hl nd kr hvs rr => ?_⟩
    refine en.new R hz hx hp (u := .dit (mergeD ps [] []).1 (mergeD ps [] []).2) ?_ h
    exact ⟨zs, vs, by rw [ew], hm, hl, nd, kr, hvs, rr⟩
  | lset => exact absurd rfl nr.2.1
  | lrev => exact absurd rfl nr.2.2.1
  | maxz => exact absurd rfl nr.2.2.2.1
  | maxm => exact absurd rfl nr.2.2.2.2.1
  | sset => exact absurd rfl nr.2.2.2.2.2.1
  | lsa => exact absurd rfl nr.2.2.2.2.2.2
  | list =>
    cases u <;> try exact h.elim
    · rename_i us
      simp only [Vw, RepU] at hv
      obtain ⟨a, vs, e1, t, q⟩ := hv
      exact .inl ⟨a, vs, by rw [e1], .inr (sqT_of t), fun l hl => en.new R hz hx hl (u := .lst us) ⟨vs, rfl, q⟩ h⟩
    · rename_i us
      obtain ⟨a, vs, e1, t, q⟩ := hv
      exact .inl ⟨a, vs, by rw [e1], .inl t, fun l hl => en.new R hz hx hl (u := .lst us) ⟨vs, rfl, q⟩ h⟩
    · obtain ⟨a, kvs, e1, r, e2, q⟩ := hv
      subst e2
      obtain ⟨hg, h⟩ := h
      exact .inr (.inl ⟨a, kvs, by rw [e1], r, fun l hl => en.new R hz hx hl (u := .lst (kvs.map fun p => kKey p.1)) ⟨_, rfl, repUs_keys fun s hs => by
        have := List.all_eq_true.mp hg _ hs
        exact goodU_out this⟩ h⟩)
    · rename_i ks ws
      exact .inr (.inr ⟨_, ks, ws, x, rfl, by rw [← ew]; exact hv, fun p bs hp rr => en.new R hz hx hp (u := .lst ks) ⟨bs, rfl, rr⟩ h⟩)
  | tuple =>
    cases u <;> try exact h.elim
    · simp only [Vw, RepU] at hv
      obtain ⟨a, vs, e1, t, q⟩ := hv
      rename_i us
      exact ⟨a, vs, by rw [e1], .inr ⟨sqT_of t, fin (z := .tup us) (by simp only [RepU]; exact ⟨a, vs, rfl, t, q⟩) h⟩⟩
    · obtain ⟨a, vs, e1, t, q⟩ := hv
      exact ⟨a, vs, by rw [e1], .inl ⟨t, fun l hl => en.newTup R hz hx hl q h⟩⟩
  | abs =>
    cases u <;> try exact h.elim
    rename_i i
    simp only [Vw, RepU] at hv
    refine ⟨i, by rw [hv], fin (z := .int i.natAbs) (by simp only [RepU]; congr 1; split <;> omega) h⟩
  | sum =>
    cases u <;> try exact h.elim
    obtain ⟨a, vs, e1, t, q⟩ := hv
    obtain ⟨ns, e2, h⟩ := optK_out h
    have := allInt_out e2 q
    subst this
    exact ⟨a, ns, by rw [e1], t, fin (by simp only [RepU]) h⟩
  | all =>
    cases u <;> try exact h.elim
    obtain ⟨a, vs, e1, t, q⟩ := hv
    obtain ⟨ns, e2, h⟩ := optK_out h
    have := allBl_out e2 q
    subst this
    exact ⟨a, ns, by rw [e1], t, fin (by simp only [RepU]) h⟩
  | any => exact h.elim
  | min =>
    cases u <;> try exact h.elim
    obtain ⟨a, vs, e1, t, q⟩ := hv
    obtain ⟨ns, e2, ne, h⟩ := optK_out h
    have := allInt_out e2 q
    subst this
    refine .inr ⟨a, ns, by rw [e1], t, List.length_pos_iff.mpr ne, fun m hm hle => fin (z := .int m) (by simp only [RepU]) ?_⟩
    rw [minI_only hm hle]
    exact h
  | max =>
    cases u <;> try exact h.elim
    obtain ⟨a, vs, e1, t, q⟩ := hv
    obtain ⟨ns, e2, ne, h⟩ := optK_out h
    have := allInt_out e2 q
    subst this
    refine .inr ⟨a, ns, by rw [e1], t, List.length_pos_iff.mpr ne, fun m hm hle => fin (z := .int m) (by simp only [RepU]) ?_⟩
    rw [maxI_only hm hle]
    exact h
  | dict =>
    cases u <;> try exact h.elim
    · obtain ⟨ps, ep, h⟩ := optK_out h
      obtain ⟨a, vs, e1, t, q⟩ := hv
      obtain ⟨qs, kvs, e2, pr, qd⟩ := pairs_rep ps ep q
      subst e2
      obtain ⟨m1, m2⟩ := merge_rep kvs qd (acc := []) (ws := []) (by simp only [List.map_nil, RepUs])
      refine .inr ⟨a, qs, kvs, by rw [e1], t, pr, fun l hl => en.new R hz hx hl (u := .dic (mergeD ps [] []).1 (mergeD ps [] []).2) ⟨_, rfl, m1, m2⟩ (by exact h)⟩
    obtain ⟨a, kvs, e1, r, e2, q⟩ := hv
    subst e2
    exact .inl ⟨a, kvs, by rw [e1], r, fun l hl => en.new R hz hx hl (u := .dic (kvs.map fun p => kKey p.1) _) ⟨kvs, rfl, rfl, q⟩ (by exact h)⟩
  | sorted =>
    cases u <;> try exact h.elim
    · rename_i us
      obtain ⟨a, vs, e1, t, q⟩ := hv
      rcases sortU_out (K := fun r => Qm r ρ2 G2) h with ⟨ns, e2, h⟩ | ⟨ss, e2, h1, h⟩ | ⟨h0, hh, h⟩
      · have := allInt_out e2 q
        subst this
        refine .inl (.inl (.inl ⟨a, ns, by rw [e1], t, fun ns' p hp hs hn => ?_⟩))
        rw [sortI_only hp hs]
        exact en.new R hz hx hn (u := .lst ((sortI ns).map U.int)) ⟨_, rfl, repUs_ints' _⟩ h
      · obtain ⟨e3, hg⟩ := allStr_out e2 q
        subst e3
        refine .inl (.inl (.inr ⟨a, ss.map strS, by rw [e1], t, by rw [List.length_map]; exact h1, fun ys p hp hs hn => ?_⟩))
        rw [sortS_only hp hs]
        exact en.new R hz hx hn (u := .lst ((sortS ss).map U.str)) ⟨_, rfl, repUs_strs' _ fun s hs => hg s ((sortS_perm ss).mem_iff.mp hs)⟩ h
      · have hl := q.length
        have go : ∀ ks : List Key, us.map hdK = ks.map some → ks.Nodup → ((∀ k ∈ ks, ∃ i, k = .inl i) ∨ ∀ k ∈ ks, ∃ t, k = .inr t) → rBf X.w X.K .sorted [x] H2 Q := fun ks hk nd one => by
          have hlk : us.length = ks.length := by have := congrArg List.length hk; simpa using this
          refine .inr ⟨a, vs, ks, by rw [e1], t, by omega, fun p hp => ?_, one, nd, fun zs p hp hs hn => ?_⟩
          · obtain ⟨i, hi, e⟩ := List.mem_iff_getElem.mp hp
            have i1 : i < vs.length := by rw [List.length_zip] at hi; omega
            have i2 : i < us.length := by omega
            have i3 : i < ks.length := by omega
            obtain ⟨v, ev, r⟩ := q.get (List.getElem?_eq_getElem i2)
            rw [List.getElem?_eq_getElem i1] at ev
            cases ev
            have e4 : (us.map hdK)[i]'(by rw [List.length_map]; exact i2) = (ks.map some)[i]'(by rw [List.length_map]; exact i3) := by simp only [hk]
            rw [List.getElem_map, List.getElem_map] at e4
            rw [List.getElem_zip] at e
            rw [← e]
            exact tup_hd r e4
          · exact en.new R hz hx hn (u := .lst (sortH us)) ⟨_, rfl, sortH_of q hk nd one hp hs⟩ h
        rcases hh with ⟨hs, e, nd⟩ | ⟨hs, e, nd⟩
        · refine go (hs.map Sum.inl) (by rw [headsI_hd e, List.map_map]; rfl) (List.pairwise_map.mpr (nd.imp fun z w => z (Sum.inl.inj w))) (.inl fun k hk => ?_)
          obtain ⟨i, _, e⟩ := List.mem_map.mp hk
          exact ⟨i, e.symm⟩
        · have inj : ∀ a b : List Nat, strS a = strS b → a = b := fun a b w => by
            have := congrArg (fun s : Str => s.cps.toList) w
            simpa only [strS_list'] using this
          refine go (hs.map fun s => Sum.inr (strS s)) (by rw [headsS_hd e, List.map_map]; rfl) (List.pairwise_map.mpr (nd.imp fun z w => z (inj _ _ (Sum.inr.inj w)))) (.inr fun k hk => ?_)
          obtain ⟨i, _, e⟩ := List.mem_map.mp hk
          exact ⟨_, e.symm⟩
    · obtain ⟨a, kvs, e1, r, e2, q⟩ := hv
      subst e2
      rcases sortD_out (K := fun r => Qm r ρ2 G2) h with ⟨ns, e2, h⟩ | ⟨ss, e2, h1, hg, h⟩
      · have e3 := keys_ints e2
        refine .inl (.inr (.inl ⟨a, kvs, ns, by rw [e1], r, e3, fun ns' p hp hs hn => ?_⟩))
        rw [sortI_only hp hs]
        exact en.new R hz hx hn (u := .lst ((sortI ns).map U.int)) ⟨_, rfl, repUs_ints' _⟩ h
      · have e3 := keys_strs e2
        refine .inl (.inr (.inr ⟨a, kvs, ss.map strS, by rw [e1], r, e3, by have := congrArg List.length e3; simp at this; rw [List.length_map]; omega, fun ys p hp hs hn => ?_⟩))
        rw [sortS_only hp hs]
        refine en.new R hz hx hn (u := .lst ((sortS ss).map U.str)) ⟨_, rfl, repUs_strs' _ fun s hs => ?_⟩ h
        have hm := (sortS_perm ss).mem_iff.mp hs
        have := List.all_eq_true.mp hg (.str s) (allStr_mem e2 hm)
        exact goodU_out this
theorem bf2_of {bf : Bf} (R : Rep c.ca X.K L Z' σ H2 ρ2 G2) (hz : ∀ a, Z a → Z' a) (hx : Ext H f H2 (fp σ ρ2 G2)) (en : EndE c X L Z σ H f Qm Q) (hv : Vw c.ca.w X.K H2 (Or2 (fp σ ρ2 G2) Z') u x) (hw : Vw c.ca.w X.K H2 (Or2 (fp σ ρ2 G2) Z') w y) (h : bf2 bf u w fun r => Qm r ρ2 G2) : rBf X.w X.K bf [x, y] H2 Q := by
  have fin : ∀ {z : U} {v : V}, RepU X.K H2 (Or2 (fp σ ρ2 G2) Z') z v → Qm (.u z) ρ2 G2 → Q v H2 := fun q k => en.ofU R hz hx q k
  cases bf with
  | max =>
    cases u <;> try exact h.elim
    cases w <;> try exact h.elim
    simp only [Vw, RepU] at hv hw
    exact .inl ⟨_, _, by rw [hv, hw], fin (by simp only [RepU]) h⟩
  | min =>
    cases u <;> try exact h.elim
    cases w <;> try exact h.elim
    simp only [Vw, RepU] at hv hw
    exact .inl ⟨_, _, by rw [hv, hw], fin (by simp only [RepU]) h⟩
  | _ => exact h.elim
theorem bltMem (b : Bf) : Str.ofString b.name ∈ bltNames := by
  cases b <;> decide +kernel
theorem isNm_out {nm : String} {e : Expr} (h : K.isNm nm e = true) : ∃ x p, e = .Name x p ∧ x = Str.ofString nm ∧ K.glob x = true := by
  unfold Ck.isNm at h
  split at h
  · simp only [Bool.and_eq_true, decide_eq_true_eq] at h
    exact ⟨_, _, rfl, h.1, h.2⟩
  · cases h
theorem val_bf (b : Bf) : (∃ id, b.val = .builtin id) ∨ ∃ T, b.val = .type T := by
  cases b <;> first | exact .inl ⟨_, rfl⟩ | exact .inr ⟨_, rfl⟩
theorem hot_int {bf : Bf} (h : (!K.hot || decide (bf = .int)) = true) : K.hot = false ∨ bf = .int := by simpa using h
theorem cr_bfh {bf : Bf} (hu : X.A.units + 64 < cLine) (h : X.calm = true ∨ bf = .int) : CallR X bf.val (rBf X.w X.K bf) := by
  rcases h with h | h
  · exact cr_bf hu h bf
  · subst h; exact CallR.or call_int1 call_int_str
theorem c_bcall (C : Ctx c n X K) {bf : Bf} (hh : K.hot = false ∨ bf = .int) (nr : bf ≠ .rev ∧ bf ≠ .lset ∧ bf ≠ .lrev ∧ bf ≠ .maxz ∧ bf ≠ .maxm ∧ bf ≠ .sset ∧ bf ≠ .lsa) {fe : Expr} {es : Es} {el : List Expr} (hf : K.isNm bf.name fe = true) (hck : ckEs K es el = true) (ga : PA X el (tA c Γ X es)) : PE X (.Call fe el [] pos) (tE c Γ X (.bcall bf es)) := by
  obtain ⟨xn, p, rfl, ex, hg⟩ := isNm_out hf
  subst ex
  obtain ⟨g1, g2, g3⟩ := gl_of C hg
  have rd : ∀ σ H Q, tE c Γ X (.bcall bf es) σ H Q → tCB (rBf X.w X.K bf) (tA c Γ X es) σ H Q := fun σ H Q ⟨L, Z, ρ, G, Xm, Qm, R, hL, w, tk, en⟩ => by
    simp only [wpE] at w
    refine ⟨L, Z, ρ, G, Xm, _, R, hL, w, tk, fun rs ρ1 G1 vs H1 hx R1 q1 ap nw w1 => ?_⟩
    have hz : ∀ a, Z a → Or2 Z (Hds rs vs) a := fun a => .inl
    cases rs with
    | nil => exact w1.elim
    | cons r rs =>
      obtain ⟨v, t, e, q1, e2⟩ := q1
      subst e
      cases rs with
      | nil =>
        have e2' : t = [] := e2
        subst e2'
        obtain ⟨u, eu, w1⟩ := vwK_out w1
        exact bf1_of nr R1 hz hx en tk.1 (vw_ok R1 q1 eu) w1
      | cons q rs =>
        obtain ⟨v2, t2, e2, q2, e3⟩ := e2
        subst e2
        cases rs with
        | nil =>
          have e3' : t2 = [] := e3
          subst e3'
          obtain ⟨u, eu, w1⟩ := vwK_out w1
          obtain ⟨z, ez, w1⟩ := vwK_out w1
          exact bf2_of R1 hz hx en (vw_ok R1 q1 eu) (vw_ok R1 q2 ez) w1
        | cons q rs => exact w1.elim
  cases el with
  | nil =>
    cases es with
    | cons m ms => cases hck
    | nil => exact ⟨fun pins s σ H Q I h => by
        obtain ⟨L, Z, ρ, G, Xm, Qm, R, hL, w, tk, en⟩ := h
        simp only [wpE, wpEs] at w
        exact w.elim⟩
  | cons e el =>
    cases es with
    | nil => cases hck
    | cons m ms =>
      simp only [ckEs, Bool.and_eq_true] at hck
      have hb := boot_bf bf
      have hm := C.blt _ (bltMem bf)
      have st := star_cons (es := el) (env := X.env) (ck_plain hck.1)
      have pl := (cks_nostar (env := X.env) (pos := pos) hck.2).1
      have cr := cr_bfh (bf := bf) C.unt (hh.imp C.calm id)
      rcases val_bf bf with ⟨id, e2⟩ | ⟨T, e2⟩
      · rw [e2] at hb cr
        exact PE.imp (pe_callB cr g1 hm hb ga g3 g2 st pl) rd
      · rw [e2] at hb cr
        exact PE.imp (pe_callTy cr g1 hm hb ga g3 g2 st pl) rd
/-- len(set(xs)) of unlike ints -/
theorem e_lset (C : Ctx c n X K) (hh : K.hot = false) {a : E} {e1 fe fs : Expr} {p1 p2 : Pos} (hf : K.isNm "len" fe = true) (hs : K.isNm "set" fs = true) (hp : plainX e1 = true) (ga : PE X e1 (tE c Γ X a)) : PE X (.Call fe [.Call fs [e1] [] p1] [] p2) (tE c Γ X (.bcall .lset (.cons a .nil))) := by
  obtain ⟨xn, p, rfl, ex, hg⟩ := isNm_out hf
  subst ex
  obtain ⟨xs, p', rfl, ex, hg'⟩ := isNm_out hs
  subst ex
  obtain ⟨g1, g2, g3⟩ := gl_of C hg
  obtain ⟨g1', _, _⟩ := gl_of C hg'
  have hm := C.blt _ (bltMem .len)
  have hm' := C.blt _ (bltMem .lset)
  refine PE.imp (pe_lenSetI (C.calm hh) g1 hm g1' hm' ga (star_cons (es := []) hp)) fun σ H Q ⟨L, Z, ρ, G, Xm, Qm, R, hL, w, tk, en⟩ => ?_
  simp only [wpE, wpEs] at w
  refine ⟨L, Z, ρ, G, Xm, _, R, hL, w, tk, fun ra ρ1 G1 x H1 hx R1 w1 => ?_⟩
  obtain ⟨u, eu, w3⟩ := vwK_out w1
  have hv := vw_ok R1.rep R1.val eu
  cases u <;> try exact w3.elim
  obtain ⟨l, vs, e, t, q⟩ := hv
  obtain ⟨ns, e2, ⟨h1, h2⟩, h⟩ := optK_out w3
  have := allInt_out e2 q
  subst this
  exact ⟨l, ns, e, t, h1, h2, en.ofU R1.rep (fun a z => .inl z) hx (u := .int ns.length) (by simp only [RepU]) h⟩
theorem ddN_mem {α : Type} [DecidableEq α] {x : α} : ∀ {l : List α}, x ∈ ddN l ↔ x ∈ l
  | [] => .rfl
  | y :: l => by
    have ih : x ∈ ddN l ↔ x ∈ l := ddN_mem
    have e : ddN (y :: l) = if y ∈ ddN l then ddN l else y :: ddN l := rfl
    rw [e, List.mem_cons]
    split
    · rename_i h
      exact ⟨fun z => .inr (ih.mp z), fun z => z.elim (fun q => q ▸ h) ih.mpr⟩
    · rw [List.mem_cons, ih]
theorem ddN_nodup {α : Type} [DecidableEq α] : ∀ l : List α, (ddN l).Nodup
  | [] => List.nodup_nil
  | y :: l => by
    have e : ddN (y :: l) = if y ∈ ddN l then ddN l else y :: ddN l := rfl
    rw [e]
    split
    · exact ddN_nodup l
    · rename_i h
      exact List.nodup_cons.mpr ⟨h, ddN_nodup l⟩
/-- sorted(set(xs)) -/
theorem e_sset (C : Ctx c n X K) (hh : K.hot = false) {a : E} {e1 fe fs : Expr} {p1 p2 : Pos} (hf : K.isNm "sorted" fe = true) (hs : K.isNm "set" fs = true) (hp : plainX e1 = true) (ga : PE X e1 (tE c Γ X a)) : PE X (.Call fe [.Call fs [e1] [] p1] [] p2) (tE c Γ X (.bcall .sset (.cons a .nil))) := by
  obtain ⟨xn, p, rfl, ex, hg⟩ := isNm_out hf
  subst ex
  obtain ⟨xs, p', rfl, ex, hg'⟩ := isNm_out hs
  subst ex
  obtain ⟨g1, g2, g3⟩ := gl_of C hg
  obtain ⟨g1', _, _⟩ := gl_of C hg'
  have hm := C.blt _ (bltMem .sorted)
  have hm' := C.blt _ (bltMem .lset)
  refine PE.imp (Sst.pe_sset (C.calm hh) g1 hm g1' hm' ga (star_cons (es := []) hp)) fun σ H Q ⟨L, Z, ρ, G, Xm, Qm, R, hL, w, tk, en⟩ => ?_
  simp only [wpE, wpEs] at w
  refine ⟨L, Z, ρ, G, Xm, _, R, hL, w, tk, fun ra ρ1 G1 x H1 hx R1 w1 => ?_⟩
  obtain ⟨u, eu, w3⟩ := vwK_out w1
  have hv := vw_ok R1.rep R1.val eu
  cases u <;> try exact w3.elim
  rename_i us
  obtain ⟨l, vs, e, t, q⟩ := hv
  refine ⟨l, e, ?_⟩
  have w4 : ssetU us fun r => Qm r ρ1 G1 := w3
  unfold ssetU at w4
  split at w4
  · rename_i ns e2
    have := allInt_out e2 q
    subst this
    refine .inr ⟨ns, t, w4.1, fun us ys p nd hm hp hs hn => ?_⟩
    have pm : us.Perm (ddN ns) := (List.perm_ext_iff_of_nodup nd (ddN_nodup ns)).mpr fun k => (hm k).symm.trans ddN_mem.symm
    rw [sortI_only (hp.trans pm) hs]
    exact en.new R1.rep (fun a z => .inl z) hx hn (u := .lst ((sortI (ddN ns)).map U.int)) ⟨_, rfl, repUs_ints' _⟩ w4.2
  · split at w4
    · rename_i ss e2
      obtain ⟨e3, hg⟩ := allStr_out e2 q
      subst e3
      refine .inl ⟨ss.map strS, t, by rw [List.length_map]; exact w4.1, fun us ys p nd hm hp hs hn => ?_⟩
      have inj : ∀ a b : List Nat, strS a = strS b → a = b := fun a b w => by
        have := congrArg (fun s : Str => s.cps.toList) w
        simpa only [strS_list'] using this
      have n2 : ((ddN ss).map strS).Nodup := List.pairwise_map.mpr ((ddN_nodup ss).imp fun z w => z (inj _ _ w))
      have pm : us.Perm ((ddN ss).map strS) := (List.perm_ext_iff_of_nodup nd n2).mpr fun k => (hm k).symm.trans (by
        rw [List.mem_map, List.mem_map]
        exact ⟨fun ⟨z, h1, h2⟩ => ⟨z, ddN_mem.mpr h1, h2⟩, fun ⟨z, h1, h2⟩ => ⟨z, ddN_mem.mp h1, h2⟩⟩)
      rw [sortS_only (hp.trans pm) hs]
      exact en.new R1.rep (fun a z => .inl z) hx hn (u := .lst ((sortS (ddN ss)).map U.str)) ⟨_, rfl, repUs_strs' _ fun s hs => hg s (ddN_mem.mp ((sortS_perm _).mem_iff.mp hs))⟩ w4.2
    · exact w4.elim
/-- len(set(xs)) of ints, alike or not -/
theorem e_lsa (C : Ctx c n X K) (hh : K.hot = false) {a : E} {e1 fe fs : Expr} {p1 p2 : Pos} (hf : K.isNm "len" fe = true) (hs : K.isNm "set" fs = true) (hp : plainX e1 = true) (ga : PE X e1 (tE c Γ X a)) : PE X (.Call fe [.Call fs [e1] [] p1] [] p2) (tE c Γ X (.bcall .lsa (.cons a .nil))) := by
  obtain ⟨xn, p, rfl, ex, hg⟩ := isNm_out hf
  subst ex
  obtain ⟨xs, p', rfl, ex, hg'⟩ := isNm_out hs
  subst ex
  obtain ⟨g1, g2, g3⟩ := gl_of C hg
  obtain ⟨g1', _, _⟩ := gl_of C hg'
  have hm := C.blt _ (bltMem .len)
  have hm' := C.blt _ (bltMem .lset)
  refine PE.imp (Sst.pe_lset (C.calm hh) g1 hm g1' hm' ga (star_cons (es := []) hp)) fun σ H Q ⟨L, Z, ρ, G, Xm, Qm, R, hL, w, tk, en⟩ => ?_
  simp only [wpE, wpEs] at w
  refine ⟨L, Z, ρ, G, Xm, _, R, hL, w, tk, fun ra ρ1 G1 x H1 hx R1 w1 => ?_⟩
  obtain ⟨u, eu, w3⟩ := vwK_out w1
  have hv := vw_ok R1.rep R1.val eu
  cases u <;> try exact w3.elim
  obtain ⟨l, vs, e, t, q⟩ := hv
  obtain ⟨ns, e2, h1, h⟩ := optK_out w3
  have := allInt_out e2 q
  subst this
  refine ⟨l, e, ns, t, h1, fun us nd hm => ?_⟩
  have pm : us.Perm (ddN ns) := (List.perm_ext_iff_of_nodup nd (ddN_nodup ns)).mpr fun k => (hm k).symm.trans ddN_mem.symm
  rw [pm.length_eq]
  exact en.ofU R1.rep (fun a z => .inl z) hx (u := .int (ddN ns).length) (by simp only [RepU]) h
/-- list(reversed(x)) -/
theorem e_lrev (C : Ctx c n X K) (hh : K.hot = false) {a : E} {e1 fe fs : Expr} {p1 p2 : Pos} (hf : K.isNm "list" fe = true) (hs : K.isNm "reversed" fs = true) (hp : plainX e1 = true) (ga : PE X e1 (tE c Γ X a)) : PE X (.Call fe [.Call fs [e1] [] p1] [] p2) (tE c Γ X (.bcall .lrev (.cons a .nil))) := by
  obtain ⟨xn, p, rfl, ex, hg⟩ := isNm_out hf
  subst ex
  obtain ⟨xs, p', rfl, ex, hg'⟩ := isNm_out hs
  subst ex
  obtain ⟨g1, g2, g3⟩ := gl_of C hg
  obtain ⟨g1', _, _⟩ := gl_of C hg'
  have hm := C.blt _ (bltMem .list)
  have hm' := C.blt _ (bltMem .rev)
  refine PE.imp (pe_lstRev (C.calm hh) g1 hm g1' hm' ga (star_cons (es := []) hp)) fun σ H Q ⟨L, Z, ρ, G, Xm, Qm, R, hL, w, tk, en⟩ => ?_
  simp only [wpE, wpEs] at w
  refine ⟨L, Z, ρ, G, Xm, _, R, hL, w, tk, fun ra ρ1 G1 x H1 hx R1 w1 => ?_⟩
  obtain ⟨u, eu, w3⟩ := vwK_out w1
  have hv := vw_ok R1.rep R1.val eu
  cases u <;> try exact w3.elim
  · rename_i us
    simp only [Vw, RepU] at hv
    obtain ⟨l, vs, e, t, q⟩ := hv
    exact ⟨l, vs, e, .inr (sqT_of t), fun l hl => en.new R1.rep (fun a z => .inl z) hx hl (u := .lst us.reverse) ⟨_, rfl, q.reverse⟩ w3⟩
  · rename_i us
    obtain ⟨l, vs, e, t, q⟩ := hv
    exact ⟨l, vs, e, .inl t, fun l hl => en.new R1.rep (fun a z => .inl z) hx hl (u := .lst us.reverse) ⟨_, rfl, q.reverse⟩ w3⟩
/-- max(x, default=d) -/
theorem e_maxd (C : Ctx c n X K) (hh : K.hot = false) {bf : Bf} {d : Int} (hb : ∀ (xs : List U) (K : R → Prop), bf1 bf (.lst xs) K = optK (allInt xs) fun ns => K (.u (.int (if ns.isEmpty then d else maxI ns)))) (hn : ∀ (x : U) (K : R → Prop), bf1 bf x K → ∃ xs, x = .lst xs) {a : E} {e1 fe ed : Expr} {p2 kp : Pos} (hf : K.isNm "max" fe = true) (hp : plainX e1 = true) (gd : PE X ed (tC (.int d))) (ga : PE X e1 (tE c Γ X a)) : PE X (.Call fe [e1] [⟨some (Str.ofString "default"), ed, kp⟩] p2) (tE c Γ X (.bcall bf (.cons a .nil))) := by
  obtain ⟨xn, p, rfl, ex, hg⟩ := isNm_out hf
  subst ex
  obtain ⟨g1, g2, g3⟩ := gl_of C hg
  have hm := C.blt _ (bltMem .max)
  have st := star_cons (es := []) (env := X.env) hp
  refine PE.imp (pe_callBK (ks := [Str.ofString "default"]) (cr_maxZ (d := d) (C.calm hh)) g1 hm (show bootBuiltins (Str.ofString "max") = some (.builtin "max") by decide +kernel) (pa_cons ga pa_nil st) (pk_cons gd pk_nil) g3 g2 (by rw [st]; rfl) (by rw [st]; rfl)) fun σ H Q ⟨L, Z, ρ, G, Xm, Qm, R, hL, w, tk, en⟩ => ?_
  simp only [wpE, wpEs] at w
  refine ⟨L, Z, ρ, G, Xm, _, R, hL, w, tk, fun ra ρ1 G1 x H1 hx R1 w1 => ?_⟩
  obtain ⟨u, eu, w3⟩ := vwK_out w1
  have hv := vw_ok R1.rep R1.val eu
  obtain ⟨us, rfl⟩ := hn _ _ w3
  rw [hb] at w3
  obtain ⟨l, vs, e, t, q⟩ := hv
  obtain ⟨ns, e2, h⟩ := optK_out w3
  have := allInt_out e2 q
  subst this
  refine ⟨l, ns, by rw [e], rfl, t, fun hn => en.ofU R1.rep (fun a z => .inl z) hx (u := .int d) (by simp only [RepU]) ?_, fun m hm hle => en.ofU R1.rep (fun a z => .inl z) hx (u := .int m) (by simp only [RepU]) ?_⟩
  · rw [hn] at h
    exact h
  · have hne : ns.isEmpty = false := by cases ns with
      | nil => cases hm
      | cons _ _ => rfl
    rw [hne, ← maxI_only hm hle] at h
    exact h
end
end Mp
namespace Mp
open PySem PySem.Spec PyProof.Rows L2
noncomputable def tnU : U → String
  | .non => "NoneType" | .bl _ => "bool" | .int _ => "int" | .str _ => "str" | .tup _ => "tuple" | .lst _ => "list" | .dic _ _ => "dict" | .dit _ _ => "dict" | .ref _ => "object"
noncomputable def tnT : Ty → String
  | .int => "int" | .bool => "bool" | .str => "str" | .list => "list" | .tuple => "tuple" | .dict => "dict" | .cls _ => ""
inductive Kd where | non | bl | int | str | tup | lst | dic
noncomputable def Kd.nm : Kd → String
  | .non => "NoneType" | .bl => "bool" | .int => "int" | .str => "str" | .tup => "tuple" | .lst => "list" | .dic => "dict"
noncomputable def Kd.is (t : Ty) : Kd → Bool
  | .non => false
  | .bl => decide (t = .bool) || decide (t = .int)
  | .int => decide (t = .int)
  | .str => decide (t = .str)
  | .tup => decide (t = .tuple)
  | .lst => decide (t = .list)
  | .dic => decide (t = .dict)
theorem kd_tab : ∀ (k : Kd) (t : Ty), (∀ j, t ≠ .cls j) → kitB k.nm (tnT t) = some (k.is t) := by
  intro k t ht
  cases t with
  | cls j => exact absurd rfl (ht j)
  | _ => cases k <;> decide +kernel
theorem kit_tab {Kf : PySem.W.Frag} {t : Ty} {u : U} (ht : ∀ k, t ≠ .cls k) (h1 : ∀ a, u ≠ .ref a) : PySem.W.kitOne Kf (.type (tnU u)) (.type (tnT t)) = some (tyU t u) := by
  cases u with
  | ref a => exact absurd rfl (h1 a)
  | dit a b => exact kit_ty (kd_tab .dic t ht)
  | non => exact kit_ty (kd_tab .non t ht)
  | bl b => exact kit_ty (kd_tab .bl t ht)
  | int b => exact kit_ty (kd_tab .int t ht)
  | str b => exact kit_ty (kd_tab .str t ht)
  | tup b => exact kit_ty (kd_tab .tup t ht)
  | lst b => exact kit_ty (kd_tab .lst t ht)
  | dic b d => exact kit_ty (kd_tab .dic t ht)
section
variable {c : Cx0} {n : Nat} {X : Cx} {K : Ck} {L Z Z' : Addr → Prop} {σ : L2.St} {H H1 H2 : Hp} {ρ ρ1 ρ2 : Rho} {G G1 G2 : Hh} {f ex : Addr → Prop} {x y v : V} {u w : U} {Qm : Kc} {Q : VK} {a b d : E} {e1 e2 e3 : Expr} {pos p2 : Pos} {r : R} {ca : Cs} {Γ : Cal} {Kf : PySem.W.Frag}
theorem tyx_of {ww : World} (h : Vw ww X.K H ex u x) (h1 : ∀ a, u ≠ .ref a) (h2 : ∀ ks ws, u ≠ .dit ks ws) : TyX X.K H x (.type (tnU u)) := by
  cases u with
  | non => simp only [Vw, RepU] at h; rw [h]; exact .base .non
  | bl b => simp only [Vw, RepU] at h; rw [h]; exact .base (.bl b)
  | int b => simp only [Vw, RepU] at h; rw [h]; exact .base (.int b)
  | str b => simp only [Vw, RepU] at h; rw [h.1]; exact .base (.str _)
  | tup xs =>
    simp only [Vw, RepU] at h
    obtain ⟨a, vs, e, t, _⟩ := h
    rw [e]
    rcases t with ⟨t | ⟨o, t⟩, _⟩ | ⟨o, its, n, t, hc, _⟩
    · exact .base (.tup t)
    · exact .fTuple t
    · exact .kTuple t hc
  | lst xs =>
    obtain ⟨a, vs, e, t, _⟩ := h
    rw [e]
    rcases t with (t | ⟨o, t⟩) | ⟨o, its, n, t, hc, _⟩
    · exact .base (.lst t)
    · exact .base (.frz t)
    · exact .kList t hc
  | dic ks ws =>
    obtain ⟨a, kvs, e, t, _⟩ := h
    rw [e]
    rcases t with t | ⟨o, t⟩
    · exact .base (.dK t)
    · exact .fDict t
  | dit ks ws => exact absurd rfl (h2 ks ws)
  | ref a => exact absurd rfl (h1 a)
theorem vw_noref (h : vw r ρ G = some u) (R : Rep ca Kf L Z σ H ρ G) (q : Val ca.w Kf H (Or2 (fp σ ρ G) Z) σ r v) : ∀ a, u ≠ .ref a := fun a e => by
  subst e
  cases r with
  | u y =>
    cases y <;> simp only [vw] at h <;> try (cases h; done)
    rename_i p
    cases hg : G p with
    | none => rw [hg] at h; cases h
    | some o =>
      rw [hg] at h
      cases o with
      | ins k fs => cases h
      | con cc =>
        cases h
        obtain ⟨ho, _, q⟩ := R.heap p _ hg
        exact q
  | tmp y =>
    cases h
    obtain ⟨p, o, _, _, q⟩ := q
    exact q
  | exc k => cases h
  | lv i =>
    simp only [vw] at h
    cases hs : ρ[i]? with
    | none => rw [hs] at h; cases h
    | some os =>
      rw [hs] at h
      cases os with
      | none => cases h
      | some sv =>
        obtain ⟨w, e1, q1⟩ := R.slot i sv hs
        cases sv with
        | u y => cases h
        | exc k => cases h
        | own y =>
          cases h
          obtain ⟨p, o, _, _, q⟩ := q1
          exact q
        | fz t y =>
          cases h
          obtain ⟨_, _, o, _, q⟩ := q1
          exact q
theorem boot_ty : ∀ t : Ty, (∀ k, t ≠ .cls k) → bootBuiltins (Str.ofString (tnT t)) = some (.type (tnT t)) ∧ Str.ofString (tnT t) ∈ bltNames := by
  intro t ht
  cases t <;> first | (exact absurd rfl (ht _)) | (constructor <;> decide +kernel)
/-- isinstance(d, c) of a dict with tuples as keys -/
noncomputable def rIsiD (W : World) (K : PySem.W.Frag) : List V → Hp → VK → Prop := fun xs H Q => ∃ (x c : V) (u : Value) (b : Bool) (ex : Addr → Prop) (ks ws : List U), xs = [x, c] ∧ ClsV c u ∧ Vw W K H ex (.dit ks ws) x ∧ PySem.W.kitOne K (.type "dict") u = some b ∧ Q (.bl b) H
theorem call_isiD {X : Cx} : CallR X (.builtin "isinstance") (rIsiD X.w X.K) := by
  intro pins s σ H xs us Q I r h
  obtain ⟨x, c, u, b, ex, ks, ws, rfl, k, ⟨a, o, rfl, hr, zs, vs, rfl, n, z1, nd, kr, hv, rr⟩, e, q⟩ := h
  obtain ⟨u1, u2, rfl, r1, r2⟩ := vals2 r
  have e2 := k.eq r2
  subst e2
  cases (show u1 = Value.ref a from r1)
  obtain ⟨o, es, ep, h1, h2, _⟩ := dit_of I hr nd kr
  exact PySem.W.kia_one PySem.W.kitx_dict I.kIn ⟨o, h1, h2.1⟩ e (fun z => nomatch z) fun tk => ⟨.bl b, H, I.tok tk, rfl, q⟩
theorem c_isin (C : Ctx c n X K) {t : Ty} {fe : Expr} (ht : ∀ k, t ≠ .cls k) (hf : K.isNm "isinstance" fe = true) (hck : ckE K a e1 = true) (hty : K.isNm (tnT t) e2 = true) (ga : PE X e1 (tE c Γ X a)) : PE X (.Call fe [e1, e2] [] pos) (tE c Γ X (.isin a [t])) := by
  obtain ⟨xn, p, rfl, exx, hg⟩ := isNm_out hf
  subst exx
  obtain ⟨yn, p3, rfl, exy, hg2⟩ := isNm_out hty
  subst exy
  obtain ⟨g1, g2, g3⟩ := gl_of C hg
  obtain ⟨k1, k2, k3⟩ := gl_of C hg2
  obtain ⟨b1, b2⟩ := boot_ty t ht
  have gt : PE X (.Name (Str.ofString (tnT t)) p3) (tC (.ty (tnT t))) := pe_bltn k1 (C.blt _ b2) b1 rfl k3 k2
  have st : starEach [e1, .Name (Str.ofString (tnT t)) p3] X.env = (false, eval e1 X.env) :: starEach [.Name (Str.ofString (tnT t)) p3] X.env := star_cons (ck_plain hck)
  refine PE.imp (pe_callB (CallR.or call_isiD call_isi) g1 (C.blt _ (by decide +kernel)) (show bootBuiltins (Str.ofString "isinstance") = some (.builtin "isinstance") by decide +kernel) (pa_cons ga (pa_cons gt pa_nil rfl) st) g3 g2 st rfl) fun σ H Q ⟨L, Z, ρ, G, Xm, Qm, R, hL, w, tk, en⟩ => ?_
  simp only [wpE] at w
  refine one (S := fun x H1 => rIsiD X.w X.K [x, .ty (tnT t)] H1 Q ∨ rIsi X.K [x, .ty (tnT t)] H1 Q) R hL w tk fun ra ρ2 G2 x H2 Z' hz ha hx R2 q w2 => ?_
  have w3 : vwK ra ρ2 G2 fun x => Qm (.u (.bl ([t].any fun t => tyU t x))) ρ2 G2 := w2
  obtain ⟨u, eu, w3⟩ := vwK_out w3
  have nr := vw_noref eu R2 q
  have hv := vw_ok R2 q eu
  have fin : Q (.bl (tyU t u)) H2 := en.ofU R2 hz hx (u := .bl (tyU t u)) (by simp only [RepU]) (by simpa using w3)
  by_cases nd : ∃ ks ws, u = .dit ks ws
  · obtain ⟨ks, ws, e⟩ := nd
    subst e
    rw [tk.1] at hv
    exact .inl ⟨x, .ty (tnT t), _, _, _, ks, ws, rfl, .ty _, hv, kit_tab (u := .dit ks ws) ht nr, fin⟩
  · exact .inr ⟨x, .ty (tnT t), _, _, _, rfl, .ty _, tyx_of hv nr fun ks ws e => nd ⟨ks, ws, e⟩, kit_tab ht nr, fin⟩
theorem dx_of {dv : Option (Addr × Str × U)} {e : Option Addr} (h : dvOk dv e) (hd : ∀ dd s x, dv = some (dd, s, x) → ∃ w, H dd = some (.xd [(s, w)]) ∧ RepU Kf H ex x w) : ∀ dd, e = some dd → ∃ fs, H dd = some (.xd fs) := fun dd ed => by
  subst ed
  match dv, h with
  | none, h => exact False.elim h
  | some (d2, s, x), h =>
    have h : d2 = dd := h
    subst h
    obtain ⟨w, q, _⟩ := hd d2 s x rfl
    exact ⟨_, q⟩
noncomputable def OneV (x : V) (u : Value) : Prop := ∀ w, RelV x w → w = u
theorem oneV_all : ∀ {cs : List V} {us ws : List Value}, Paired OneV cs us → Vals cs ws → ws = us
  | _, _, _, .nil, .nil => rfl
  | _, _, _, .cons h k, .cons r t => by
    have e1 := h _ r
    have e2 := oneV_all k t
    rw [e1, e2]
/-- what the exception's own dict is, as far as it matters -/
noncomputable def DxOk (H : Hp) (d : Option Addr) : Prop := ∀ dd, d = some dd → ∃ fs, H dd = some (.xd fs)
/-- isinstance(e, c), isinstance(e, (c, ..)) -/
noncomputable def rIsG (K : PySem.W.Frag) (D a : Addr) (d : Option Addr) : List V → Hp → VK → Prop := fun xs H Q => DxOk H d ∧
  ((∃ (cc : V) (cv : Value) (b : Bool), xs = [.ref a, cc] ∧ OneV cc cv ∧ PySem.W.kitOne K (.ref D) cv = some b ∧ Q (.bl b) H) ∨
    ∃ (tp : Addr) (cs : List V) (us : List Value) (b : Bool), xs = [.ref a, .ref tp] ∧ H tp = some (.tup cs) ∧ Paired OneV cs us ∧ PySem.W.kitAny K (.ref D) us = some b ∧ Q (.bl b) H)
theorem isG_at {X : Cx} {a D : Addr} {d : Option Addr} {oe : Obj} {pn pins : List (Addr × Obj)} {s : Shared} {σ : L2.St} {H : Hp} (hz : Zc (.ref D) d oe) (hf : ∃ vs, oe.data = .fields vs) (I : Inv (X.suite a ((a, oe) :: pn)) pins σ H s) (hd : DxOk H d) :
    ∃ od, PySem.W.InstAt s.heap a oe D od := by
  obtain ⟨hget, _⟩ := I.pin (a, oe) (List.mem_append_left _ List.mem_cons_self)
  obtain ⟨vs, hv⟩ := hf
  have nc : PySem.W.notCls oe := by
    unfold PySem.W.notCls
    rw [hv] <;> rfl
  cases d with
  | none => exact ⟨none, hget, hz.1, nc, by rw [hz.2]; trivial⟩
  | some dd =>
    obtain ⟨fs, e⟩ := hd dd rfl
    obtain ⟨mA, hns, _⟩ := (show ObjOk X.prog X.w H s.heap dd (.xd fs) from I.hok dd _ e)
    obtain ⟨od, ho, _⟩ := lookIn_ns hns
    exact ⟨some od, hget, hz.1, nc, by rw [hz.2]; exact ho⟩
theorem call_isG {X : Cx} {a D : Addr} {d : Option Addr} {oe : Obj} {pn : List (Addr × Obj)} (EC : ExcC X.K D) (hz : Zc (.ref D) d oe) (hf : ∃ vs, oe.data = .fields vs) : CallR (X.suite a ((a, oe) :: pn)) (.builtin "isinstance") (rIsG X.K D a d) := by
  intro pins s σ H xs us Q I r h
  obtain ⟨hd, h⟩ := h
  obtain ⟨od, J⟩ := isG_at hz hf I hd
  have cl : (PySem.W.clsIn X.K D).isSome = true := by
    obtain ⟨cd, hc, _⟩ := PySem.W.any_some EC.hd
    rw [hc]; rfl
  have KX := PySem.W.kitx_exc (x := a) (ox := oe) (od := od) cl EC.hg EC.hk EC.hs EC.ha EC.hn EC.ht EC.hm
  rcases h with ⟨cc, cv, b, e1, ho, hk, q⟩ | ⟨tp, cs, ws, b, e1, ht, hp, hk, q⟩
  · subst e1
    obtain ⟨u1, u2, e2, r1, r2⟩ := vals2 r
    subst e2
    cases (show u1 = Value.ref a from r1)
    have e3 := ho _ r2
    subst e3
    exact PySem.W.kia_one KX I.kIn J hk (fun z => nomatch z) fun tk => ⟨.bl b, H, I.tok tk, rfl, q⟩
  · subst e1
    obtain ⟨u1, u2, e2, r1, r2⟩ := vals2 r
    subst e2
    cases (show u1 = Value.ref a from r1)
    cases (show u2 = Value.ref tp from r2)
    obtain ⟨_, its, rv, ob, k1, k2, m, k3⟩ := (show ObjOk X.prog X.w H s.heap tp (.tup cs) from I.hok tp _ ht)
    have e3 := oneV_all hp rv
    subst e3
    obtain ⟨oc, od', dt, sl⟩ := ob
    simp only at k2 k3
    subst k2 k3
    exact PySem.W.kia_tup KX I.kIn J k1 hk (fun z => nomatch z) fun tk => ⟨.bl b, H, I.tok tk, rfl, q⟩
/-- the slot of the exception that the suite holds -/
theorem exc_slot {i : Nat} {a : Addr} {dv : Option (Addr × Str × U)} (R : Rep ca Kf L Z σ H ρ G) (hs : ρ[i]? = some (some (.exc a dv))) : σ[i]? = some (some (.ref a)) ∧ ∀ dd s x, dv = some (dd, s, x) → ∃ w, H dd = some (.xd [(s, w)]) ∧ RepU Kf H (Or2 (fp σ ρ G) Z) x w := by
  obtain ⟨v, e1, q0⟩ := R.slot i _ hs
  have q1 : RepE Kf H (Or2 (fp σ ρ G) Z) a dv v := q0
  obtain ⟨e2, q2⟩ := q1
  subst e2
  refine ⟨e1, fun dd s x e => ?_⟩
  subst e
  obtain ⟨w, h1, _, h3⟩ := q2
  exact ⟨w, h1, h3⟩
theorem pe_slot (C : Ctx c n X K) {i : Nat} {xn : Str} {px : Pos} (hx : K.loc i xn = true) : PE X (.Name xn px) (tVar i) := by
  unfold Ck.loc at hx
  simp only [Bool.and_eq_true, decide_eq_true_eq] at hx
  obtain ⟨z1, z2, _⟩ := okNm_out hx.2
  exact pe_var (by rw [C.nm]; exact hx.1.1) (by rw [C.scope]; exact vis_of hx.1.2) z1 z2
theorem pe_clsN (C : Ctx c n X K) {j : Nat} {yn : Str} {py : Pos} (hy : K.glob yn = true) (hj : K.cnm.lookup j = some yn) : ∃ cw cv, PE X (.Name yn py) (tC cw) ∧ OneV cw cv ∧ ∀ k, c.xs k = true → PySem.W.kitOne X.K (.ref (c.ca k)) cv = some (c.P.sup k j) := by
  obtain ⟨cw, cv, hm, hr, hu, hc⟩ := C.xts j yn hj
  obtain ⟨k1, k2, k3⟩ := gl_of C hy
  refine ⟨cw, cv, ?_, hu, fun k xk => (hc k xk).2⟩
  rcases hm with hm | ⟨hm, hb⟩
  · exact pe_glob k1 hm hr k2
  · exact pe_bltn k1 hm hb hr k3 k2
/-- the classes of a tuple -/
theorem pa_cls (C : Ctx c n X K) : ∀ {js : List Nat} {ys : List Expr}, dclsB K js ys = true → ∃ cws cvs, PA X ys (fun _ H Q => Q cws H) ∧ Paired OneV cws cvs ∧ cws.length = ys.length ∧ ∀ k, c.xs k = true → PySem.W.kitAny X.K (.ref (c.ca k)) cvs = some (js.any fun j => c.P.sup k j)
  | [], [], _ => ⟨[], [], PA.imp pa_nil fun σ H Q h => h, .nil, rfl, fun k _ => rfl⟩
  | j :: js, .Name y py :: ys, h => by
    simp only [dclsB, Bool.and_eq_true, decide_eq_true_eq] at h
    obtain ⟨⟨h1, h2⟩, h3⟩ := h
    obtain ⟨cw, cv, g1, g2, g3⟩ := pe_clsN C (py := py) h1 h2
    obtain ⟨cws, cvs, k1, k2, k3, k4⟩ := pa_cls C h3
    refine ⟨cw :: cws, cv :: cvs, PA.imp (pa_cons g1 k1 rfl) fun σ H Q h => h, .cons g2 k2, by rw [List.length_cons, List.length_cons, k3], fun k xk => ?_⟩
    rw [List.any_cons]
    cases hb : c.P.sup k j with
    | true => exact kitAny_cons (g3 k xk) (fun z => by rw [hb] at z; cases z) fun _ => rfl
    | false => exact kitAny_cons (g3 k xk) (fun _ => by rw [k4 k xk]; rfl) fun z => by rw [hb] at z; cases z
theorem exc_in {i : Nat} {Qx : Addr → Option (Addr × Str × U) → Addr → Option Addr → Nat → List U → Prop} (h : match ρ[i]? with
    | some (some (.exc a dv)) => (match c.cur with
      | some (b, e, k, as) => Qx a dv b e k as
      | _ => False)
    | _ => False) : ∃ a dv b e k as, ρ[i]? = some (some (.exc a dv)) ∧ c.cur = some (b, e, k, as) ∧ Qx a dv b e k as := by
  split at h
  · split at h
    · exact ⟨_, _, _, _, _, _, by assumption, by assumption, h⟩
    · exact h.elim
  · exact h.elim
/-- isinstance(e, C), e what the suite holds -/
theorem c_isx (C : Ctx c n X K) {i j : Nat} {fe : Expr} {xn yn : Str} {px py : Pos} (hf : K.isNm "isinstance" fe = true) (hx : K.loc i xn = true) (hy : K.glob yn = true) (hj : K.cnm.lookup j = some yn) :
    PE X (.Call fe [.Name xn px, .Name yn py] [] pos) (tE c (gN c n) X (.isx i j)) := by
  obtain ⟨fn, p, rfl, exx, hg⟩ := isNm_out hf
  subst exx
  obtain ⟨g1, g2, g3⟩ := gl_of C hg
  obtain ⟨cw, cv, gy, ho, hk⟩ := pe_clsN C (py := py) hy hj
  refine ⟨fun pins s σ H Q I h => ?_⟩
  obtain ⟨L, Z, ρ, G, Xm, Qm, R, hL, w, tk, en⟩ := h
  simp only [wpE] at w
  obtain ⟨a, dv, b, e, k, as, hs, hcur, eab, hdx, w⟩ := exc_in (Qx := fun a dv b e k _ => a = b ∧ dvOk dv e ∧ Qm (.u (.bl (c.P.sup k j))) ρ G) w
  subst eab
  obtain ⟨xk, X0, oe, pn, eX, hz, hdat⟩ := C.exn _ _ _ _ hcur
  obtain ⟨e1, hdv⟩ := exc_slot R hs
  have st : starEach [.Name xn px, .Name yn py] X.env = (false, eval (.Name xn px) X.env) :: starEach [.Name yn py] X.env := rfl
  have cr : CallR X (.builtin "isinstance") (rIsG X.K (c.ca k) a e) := by
    rw [eX]
    exact call_isG (by have := C.xcl k xk; rw [eX] at this; exact this) hz hdat
  refine (pe_callB cr g1 (C.blt _ (by decide +kernel)) (show bootBuiltins (Str.ofString "isinstance") = some (.builtin "isinstance") by decide +kernel) (pa_cons (pe_slot C hx) (pa_cons gy pa_nil rfl) st) g3 g2 st rfl).run pins s σ H Q I ?_
  refine ⟨_, e1, dx_of hdx hdv, .inl ⟨cw, cv, _, rfl, ho, hk k xk, ?_⟩⟩
  exact en.ofU R (fun _ z => z) (Ext.refl _ _) (u := .bl (c.P.sup k j)) (by simp only [RepU]) w
/-- isinstance(e, (C, ..)) -/
theorem c_isxs (C : Ctx c n X K) {i : Nat} {js : List Nat} {fe : Expr} {xn : Str} {ys : List Expr} {kk : Nat} {px pt : Pos} (hf : K.isNm "isinstance" fe = true) (hx : K.loc i xn = true) (hy : dclsB K js ys = true) (hlen : ys.length ≤ 1000) :
    PE X (.Call fe [.Name xn px, .Tuple ys kk pt] [] pos) (tE c (gN c n) X (.isxs i js)) := by
  obtain ⟨fn, p, rfl, exx, hg⟩ := isNm_out hf
  subst exx
  obtain ⟨g1, g2, g3⟩ := gl_of C hg
  obtain ⟨cws, cvs, ga, hp, hl, hk⟩ := pa_cls C hy
  refine ⟨fun pins s σ H Q I h => ?_⟩
  obtain ⟨L, Z, ρ, G, Xm, Qm, R, hL, w, tk, en⟩ := h
  simp only [wpE] at w
  obtain ⟨a, dv, b, e, k, as, hs, hcur, eab, hdx, w⟩ := exc_in (Qx := fun a dv b e k _ => a = b ∧ dvOk dv e ∧ Qm (.u (.bl (js.any fun j => c.P.sup k j))) ρ G) w
  subst eab
  obtain ⟨xk, X0, oe, pn, eX, hz, hdat⟩ := C.exn _ _ _ _ hcur
  obtain ⟨e1, hdv⟩ := exc_slot R hs
  have st : starEach [.Name xn px, .Tuple ys kk pt] X.env = (false, eval (.Name xn px) X.env) :: starEach [.Tuple ys kk pt] X.env := rfl
  have cr : CallR X (.builtin "isinstance") (rIsG X.K (c.ca k) a e) := by
    rw [eX]
    exact call_isG (by have := C.xcl k xk; rw [eX] at this; exact this) hz hdat
  refine (pe_callB cr g1 (C.blt _ (by decide +kernel)) (show bootBuiltins (Str.ofString "isinstance") = some (.builtin "isinstance") by decide +kernel) (pa_cons (pe_slot C hx) (pa_cons (pe_tup ga) pa_nil rfl) st) g3 g2 st rfl).run pins s σ H Q I ?_
  refine ⟨_, e1, ?_⟩
  show cws.length ≤ sizeLine ∧ _
  refine ⟨by rw [hl, sizeLine_def]; omega, fun t ht => ?_⟩
  have hk2 : ∀ b o, H b = some o → upd H t (.tup cws) b = some o := fun b o e => by
    rw [upd_ne (ne_of_none e ht)]; exact e
  have R2 := R.heapExt hk2
  refine ⟨fun dd ed => ?_, .inr ⟨t, cws, cvs, _, rfl, upd_same, hp, hk k xk, ?_⟩⟩
  · obtain ⟨fs, e5⟩ := dx_of hdx hdv dd ed
    exact ⟨fs, hk2 _ _ e5⟩
  · exact en.ofU R2 (fun _ z => z) (fun b o e m => ⟨hk2 b o e, m⟩) (u := .bl (js.any fun j => c.P.sup k j)) (by simp only [RepU]) w
/-- e.f -/
theorem c_exf (C : Ctx c n X K) {i fi : Nat} {xn nm : Str} {px : Pos} (hx : K.loc i xn = true) (hf : K.fdn.lookup fi = some nm) (hns : xn ≠ "super") : PE X (.Attribute (.Name xn px) nm pos) (tE c (gN c n) X (.exf i fi)) := by
  have hn := C.fdn _ _ hf
  subst hn
  refine ⟨fun pins s σ H Q I h => ?_⟩
  obtain ⟨L, Z, ρ, G, Xm, Qm, R, hL, w, tk, en⟩ := h
  simp only [wpE] at w
  split at w
  · rename_i a d s0 x0 hs
    split at w
    · rename_i b e k as hcur
      obtain ⟨⟨e1, e2, e3, e4⟩, w⟩ := w
      subst e1 e2
      obtain ⟨xk, X0, oe, pn, eX, hz, hdat⟩ := C.exn _ _ _ _ hcur
      obtain ⟨q1, q2, q3⟩ := C.xfd k fi xk e3
      obtain ⟨e5, hdv⟩ := exc_slot R hs
      obtain ⟨v, h1, h2⟩ := hdv d s0 x0 rfl
      have hb : attributeBase (.Name xn px) (c.ca.fn fi) X.env (eval (.Name xn px) X.env) = eval (.Name xn px) X.env := attrBase rfl
      have gs := pe_slot C hx (px := px)
      have main : PE X (.Attribute (.Name xn px) (c.ca.fn fi) pos) (tXf a (.ref (c.ca k)) (some d) (c.ca k) (c.ca.fn fi) (tVar i)) := by
        subst eX
        exact pe_xf q2 q3 hz hdat gs hb
      refine main.run pins s σ H Q I ⟨.ref a, e5, rfl, rfl, d, _, v, rfl, h1, ?_, en.ofU R (fun _ z => z) (Ext.refl _ _) h2 w⟩
      rw [List.lookup_cons, e4, q1, beq_self_eq_true]
    · exact w.elim
  · exact w.elim
theorem set_own {i j : Nat} {u w r0 : U} (hs : ρ[i]? = some (some (.own u))) (h : (ρ.set i (some (.own w)))[j]? = some (some (.own r0))) : ∃ z, ρ[j]? = some (some (.own z)) := by
  rcases set_at h with ⟨e, _⟩ | ⟨_, h⟩
  · exact ⟨u, by rw [e]; exact hs⟩
  · exact ⟨r0, h⟩
/-- the list in a slot gets another content -/
theorem Rep.writeS {i : Nat} {p : Addr} {o' : HO} (R : Rep ca Kf L Z σ H ρ G) (hs : ρ[i]? = some (some (.own u))) (hv : σ[i]? = some (some (.ref p))) (q : RepC Kf H (Or2 (fp σ ρ G) Z) ca.w p w o') :
    Rep ca Kf L Z σ (upd H p o') (ρ.set i (some (.own w))) G ∧ (∀ a, fp σ (ρ.set i (some (.own w))) G a ↔ fp σ ρ G a) ∧ fp σ ρ G p := by
  have hl : i < ρ.length := (List.getElem?_eq_some_iff.mp hs).1
  have hfp : ∀ a, fp σ (ρ.set i (some (.own w))) G a ↔ fp σ ρ G a := fun a => by
    constructor
    · rintro (h | ⟨j, z, h1, h2⟩)
      · exact .inl h
      · obtain ⟨z', h3⟩ := set_own hs h1
        exact .inr ⟨j, z', h3, h2⟩
    · rintro (h | ⟨j, z, h1, h2⟩)
      · exact .inl h
      · by_cases e : j = i
        · subst e
          exact .inr ⟨j, w, List.getElem?_set_self hl, h2⟩
        · exact .inr ⟨j, z, by rw [List.getElem?_set_ne (Ne.symm e)]; exact h1, h2⟩
  have fpp : fp σ ρ G p := .inr ⟨i, u, hs, hv⟩
  have keep : ∀ a o, a ≠ p → H a = some o → upd H p o' a = some o := fun a o n e => by rw [upd_ne n]; exact e
  have hx : Ext H (Or2 (fp σ ρ G) Z) (upd H p o') (Or2 (fp σ (ρ.set i (some (.own w))) G) Z) := fun a o e n =>
    ⟨keep a o (fun z => n (.inl (z ▸ fpp))) e, fun z => n (z.elim (fun z => .inl ((hfp a).mp z)) .inr)⟩
  refine ⟨⟨by rw [List.length_set]; exact R.len, fun j sv e => ?_, fun j k x y a h1 h2 h3 h4 => ?_, fun j x a h1 h2 => ?_, fun a o e => ?_, fun a z => ?_⟩, hfp, fpp⟩
  · rcases set_at e with ⟨e4, e5⟩ | ⟨ne, e⟩
    · cases e5
      subst e4
      exact ⟨.ref p, hv, p, o', rfl, upd_same, q.ext hx⟩
    · obtain ⟨v, e4, q4⟩ := R.slot j sv e
      refine ⟨v, e4, ?_⟩
      cases sv with
      | u x => exact RepU.ext hx x q4
      | own x =>
        obtain ⟨b, o, e5, e6, q5⟩ := q4
        subst e5
        refine ⟨b, o, rfl, keep b o (fun z => ?_) e6, q5.ext hx⟩
        subst z
        exact ne (R.own j i x u b e hs e4 hv)
      | fz t x =>
        obtain ⟨e5, ⟨n5, l⟩, o, e6, q5⟩ := q4
        exact ⟨e5, ⟨fun z => n5 ((hfp t).mp z), l⟩, o, e6.imp (fun e6 => keep t o (fun z => n5 (z ▸ fpp)) e6) (fun ⟨od, e6⟩ => ⟨od, keep t _ (fun z => n5 (z ▸ fpp)) e6⟩), q5.ext hx⟩
      | exc k d => exact RepE.ext hx q4
  · obtain ⟨z1, h5⟩ := set_own hs h1
    obtain ⟨z2, h6⟩ := set_own hs h2
    exact R.own j k z1 z2 a h5 h6 h3 h4
  · obtain ⟨z1, h5⟩ := set_own hs h1
    exact R.ownG j z1 a h5 h2
  · obtain ⟨ho, e4, q4⟩ := R.heap a o e
    refine ⟨ho, keep a ho (fun z => ?_) e4, q4.ext hx⟩
    subst z
    rw [R.ownG i u a hs hv] at e
    cases e
  · obtain ⟨n5, o, e⟩ := R.zd a z
    exact ⟨fun z2 => n5 ((hfp a).mp z2), o, keep a o (fun z2 => n5 (z2 ▸ fpp)) e⟩
/-- the list at a shared address gets another content -/
theorem Rep.writeG {p : Addr} {o o2 : O} {o' : HO} (R : Rep ca Kf L Z σ H ρ G) (hg : G p = some o) (q : RepO ca Kf H (Or2 (fp σ ρ G) Z) p o2 o') :
    Rep ca Kf L Z σ (upd H p o') ρ (put G p o2) ∧ (∀ a, fp σ ρ (put G p o2) a ↔ fp σ ρ G a) ∧ fp σ ρ G p := by
  have hG : ∀ a, (∃ o, put G p o2 a = some o) ↔ ∃ o, G a = some o := fun a => by
    unfold put
    by_cases e : a = p
    · subst e
      rw [if_pos rfl]
      exact ⟨fun _ => ⟨o, hg⟩, fun _ => ⟨o2, rfl⟩⟩
    · rw [if_neg e]
  have hfp : ∀ a, fp σ ρ (put G p o2) a ↔ fp σ ρ G a := fun a => or_congr (hG a) Iff.rfl
  have fpp : fp σ ρ G p := .inl ⟨o, hg⟩
  have keep : ∀ a o, a ≠ p → H a = some o → upd H p o' a = some o := fun a o n e => by rw [upd_ne n]; exact e
  have hx : Ext H (Or2 (fp σ ρ G) Z) (upd H p o') (Or2 (fp σ ρ (put G p o2)) Z) := fun a o e n =>
    ⟨keep a o (fun z => n (.inl (z ▸ fpp))) e, fun z => n (z.elim (fun z => .inl ((hfp a).mp z)) .inr)⟩
  refine ⟨⟨R.len, fun j sv e => ?_, R.own, fun j x a h1 h2 => ?_, fun a ob e => ?_, fun a z => ?_⟩, hfp, fpp⟩
  · obtain ⟨v, e4, q4⟩ := R.slot j sv e
    refine ⟨v, e4, ?_⟩
    cases sv with
    | u x => exact RepU.ext hx x q4
    | own x =>
      obtain ⟨b, o, e5, e6, q5⟩ := q4
      subst e5
      refine ⟨b, o, rfl, keep b o (fun z => ?_) e6, q5.ext hx⟩
      subst z
      rw [R.ownG j x b e e4] at hg
      cases hg
    | fz t x =>
      obtain ⟨e5, ⟨n5, l⟩, o, e6, q5⟩ := q4
      exact ⟨e5, ⟨fun z => n5 ((hfp t).mp z), l⟩, o, e6.imp (fun e6 => keep t o (fun z => n5 (z ▸ fpp)) e6) (fun ⟨od, e6⟩ => ⟨od, keep t _ (fun z => n5 (z ▸ fpp)) e6⟩), q5.ext hx⟩
    | exc k d => exact RepE.ext hx q4
  · have := R.ownG j x a h1 h2
    cases e : put G p o2 a with
    | none => rfl
    | some ob =>
      obtain ⟨o3, h⟩ := (hG a).mp ⟨ob, e⟩
      rw [this] at h; cases h
  · unfold put at e
    by_cases ea : a = p
    · subst ea
      rw [if_pos rfl] at e
      cases e
      exact ⟨o', upd_same, q.ext hx⟩
    · rw [if_neg ea] at e
      obtain ⟨ho, e4, q4⟩ := R.heap a ob e
      exact ⟨ho, keep a ho ea e4, q4.ext hx⟩
  · obtain ⟨n5, o, e⟩ := R.zd a z
    exact ⟨fun z2 => n5 ((hfp a).mp z2), o, keep a o (fun z2 => n5 (z2 ▸ fpp)) e⟩
/-- a list or dict changed by its holder -/
theorem put_con {cx cy : U} {K0 : Rho → Hh → Prop} (R : Rep ca Kf L Z σ H ρ G) (q : Val ca.w Kf H (Or2 (fp σ ρ G) Z) σ r x) (ev : vw r ρ G = some cx) (h : putR r cy ρ G K0) :
    ∃ p o, x = .ref p ∧ H p = some o ∧ RepC Kf H (Or2 (fp σ ρ G) Z) ca.w p cx o ∧ ∀ o', RepC Kf H (Or2 (fp σ ρ G) Z) ca.w p cy o' → ∃ ρ' G', K0 ρ' G' ∧ Rep ca Kf L Z σ (upd H p o') ρ' G' ∧ (∀ a, fp σ ρ' G' a ↔ fp σ ρ G a) ∧ fp σ ρ G p := by
  cases r with
  | tmp y => exact h.elim
  | exc k => exact h.elim
  | u y =>
    cases y <;> try exact h.elim
    rename_i p
    simp only [vw] at ev
    cases hg : G p with
    | none => rw [hg] at ev; cases ev
    | some o =>
      rw [hg] at ev
      cases o with
      | ins k fs => cases ev
      | con cc =>
        cases ev
        obtain ⟨ho, e1, q1⟩ := R.heap p _ hg
        refine ⟨p, ho, by simpa only [Val, RepU] using q, e1, q1, fun o' qo => ?_⟩
        obtain ⟨R2, hf, hp⟩ := R.writeG hg (o2 := .con cy) (o' := o') qo
        exact ⟨ρ, _, h, R2, hf, hp⟩
  | lv i =>
    have q' : σ[i]? = some (some x) := q
    simp only [vw, putR] at ev h
    cases hs : ρ[i]? with
    | none => rw [hs] at h; exact h.elim
    | some os =>
      rw [hs] at h ev
      cases os with
      | none => exact h.elim
      | some sv =>
        cases sv with
        | u y => exact h.elim
        | fz t y => exact h.elim
        | exc k d => exact h.elim
        | own y =>
          cases ev
          obtain ⟨v, e1, q1⟩ := R.slot i _ hs
          obtain ⟨p, o, e2, e3, q2⟩ := q1
          rw [q'] at e1
          cases e1
          subst e2
          refine ⟨p, o, rfl, e3, q2, fun o' qo => ?_⟩
          obtain ⟨R2, hf, hp⟩ := R.writeS hs q' (w := cy) (o' := o') qo
          exact ⟨_, G, (setK_iff.mp h).2, R2, hf, hp⟩
/-- a list changed by its holder -/
theorem put_list {xs ys : List U} {K0 : Rho → Hh → Prop} (R : Rep ca Kf L Z σ H ρ G) (q : Val ca.w Kf H (Or2 (fp σ ρ G) Z) σ r x) (ev : vw r ρ G = some (.lst xs)) (h : putR r (.lst ys) ρ G K0) :
    ∃ p vs, x = .ref p ∧ H p = some (.lst vs) ∧ RepUs Kf H (Or2 (fp σ ρ G) Z) xs vs ∧ ∀ ws, RepUs Kf H (Or2 (fp σ ρ G) Z) ys ws → ∃ ρ' G', K0 ρ' G' ∧ Rep ca Kf L Z σ (upd H p (.lst ws)) ρ' G' ∧ (∀ a, fp σ ρ' G' a ↔ fp σ ρ G a) ∧ fp σ ρ G p := by
  obtain ⟨p, o, h1, h2, ⟨vs, e, h3⟩, go⟩ := put_con R q ev h
  subst e
  exact ⟨p, vs, h1, h2, h3, fun ws qw => go _ ⟨ws, rfl, qw⟩⟩
/-- a dict -/
theorem put_dic {ks ws : List U} {cy : U} {K0 : Rho → Hh → Prop} (R : Rep ca Kf L Z σ H ρ G) (q : Val ca.w Kf H (Or2 (fp σ ρ G) Z) σ r x) (ev : vw r ρ G = some (.dic ks ws)) (h : putR r cy ρ G K0) :
    ∃ p kvs, x = .ref p ∧ H p = some (.dK kvs) ∧ ks = kvs.map (fun p => kKey p.1) ∧ RepUs Kf H (Or2 (fp σ ρ G) Z) ws (kvs.map (·.2)) ∧ ∀ o', RepC Kf H (Or2 (fp σ ρ G) Z) ca.w p cy o' → ∃ ρ' G', K0 ρ' G' ∧ Rep ca Kf L Z σ (upd H p o') ρ' G' ∧ (∀ a, fp σ ρ' G' a ↔ fp σ ρ G a) ∧ fp σ ρ G p := by
  obtain ⟨p, o, h1, h2, ⟨kvs, e, h3, h4⟩, go⟩ := put_con R q ev h
  subst e
  exact ⟨p, kvs, h1, h2, h3, h4, go⟩
/-- a dict with tuples as keys -/
theorem put_dit {ks ws : List U} {cy : U} {K0 : Rho → Hh → Prop} (R : Rep ca Kf L Z σ H ρ G) (q : Val ca.w Kf H (Or2 (fp σ ρ G) Z) σ r x) (ev : vw r ρ G = some (.dit ks ws)) (h : putR r cy ρ G K0) :
    ∃ p xs vs, x = .ref p ∧ H p = some (.ext (DitR ca.w p xs)) ∧ (p == sysModules) = false ∧ xs.length ≤ sizeLine ∧ (xs.map (·.1)).Nodup ∧ KeyR Kf H (Or2 (fp σ ρ G) Z) ks xs ∧ Vals vs (xs.map (·.2.2)) ∧ RepUs Kf H (Or2 (fp σ ρ G) Z) ws vs ∧
      ∀ o', RepC Kf H (Or2 (fp σ ρ G) Z) ca.w p cy o' → ∃ ρ' G', K0 ρ' G' ∧ Rep ca Kf L Z σ (upd H p o') ρ' G' ∧ (∀ a, fp σ ρ' G' a ↔ fp σ ρ G a) ∧ fp σ ρ G p := by
  obtain ⟨p, o, h1, h2, ⟨xs, vs, e, n, z, nd, kr, hv, h3⟩, go⟩ := put_con R q ev h
  subst e
  exact ⟨p, xs, vs, h1, h2, n, z, nd, kr, hv, h3, go⟩
end
theorem ditH_at {P : Program} {w : World} {h : Heap} {a : Addr} {xs : List (NestedKey × Addr × Value)} (d : h.DictOfH (nestedKind P w) a xs) : ∃ o, h.get? a = some o := by
  obtain ⟨o, es, ep, h1, _⟩ := d
  exact ⟨o, h1⟩
theorem storedH_len (xs : List (NestedKey × Addr × Value)) (k : NestedKey) (a : Addr) (v : Value) : (storedH xs k a v).length ≤ xs.length + 1 := by
  unfold storedH
  split <;> simp
theorem withoutH_len (xs : List (NestedKey × Addr × Value)) (k : NestedKey) : (withoutH xs k).length ≤ xs.length := by
  unfold withoutH
  exact List.length_filter_le _ _
/-- d[k] = v -/
noncomputable def rSetT (w : World) (K : PySem.W.Frag) : TSet := fun o i v H Q => ∃ a xs ex u b ks, o = .ref a ∧ i = .ref b ∧ H a = some (.ext (DitR w a xs)) ∧ (xs.map (·.1)).Nodup ∧ xs.length ≤ sizeLine ∧ KeyR K H ex ks xs ∧ keyT u = true ∧ RepU K H ex u (.ref b) ∧
  ∀ x, RelV v x → ((storedH xs (kN u) b x).map (·.1)).Nodup → Q (upd H a (.ext (DitR w a (storedH xs (kN u) b x))))
theorem set_dit {X : Cx} (hu : X.A.units + 64 < cLine) : PSet X (rSetT X.w X.K) := by
  intro pins s σ H o i v ov iv u Q I ro ri rv h
  obtain ⟨a, xs, ex, ku, b, ks, rfl, rfl, ha, nd, hz, kr, hk, ru, q⟩ := h
  cases (show ov = Value.ref a from ro)
  cases (show iv = Value.ref b from ri)
  refine wpAny_setItem_heap (knd := nestedKind X.prog X.w) (room8 hu) (key_is I hk ru) (dit_of I (.inl ha) nd kr) (fun h' hm' hs => ?_) hz
  exact ⟨_, d_write (t' := s.toks + _) I (by rw [ha]; trivial) hs (ditH_at hm') (ditO_new hm'), q _ rv (ditH_nd hm')⟩
end Mp
namespace Mp
open PySem PySem.Spec PyProof.Rows L2
section
variable {X : Cx}
theorem list_extendW (l : Addr) (items : Array Value) (n : Nat) (b : Addr) (items2 : Array Value) (n2 : Nat) (sl2 : Array (Option Value)) (hc0 : ¬(!items.isEmpty && Builtin.List.listTooLong (items.size + items2.size)) = true) (hc1 : items.size ≤ sizeLine) (hs2 : items.size + items2.size ≤ sizeLine + 1) :
    Meets (Builtin.«list.extend» ⟨[.ref l, .ref b], []⟩) (fun _ R s => s.heap.get? l = some { cls := .type "list", dict := none, data := .seq items n, slots := #[] } ∧ s.heap.get? b = some { cls := .type "list", dict := none, data := .seq items2 n2, slots := sl2 } ∧ R (.ok (.ret Value.none)) { s with heap := s.heap.update l (Obj.mapSeq fun x => x ++ items2), toks := s.toks }) :=
  .of_wp fun prog w A R s h => by
    obtain ⟨hp, g, d, tk, os⟩ := s; obtain ⟨hl, hb, h⟩ := h; have f1 := AutoSeq1.idx_int; have f2 := AutoSeq1.sub_tuple_tuple; have f3 := AutoSeq1.sub_list_list; have f4 := AutoSeq1.sub_tuple_list; have f5 := AutoSeq1.sub_list_tuple
    have hz' : (items ++ items2).size ≤ sizeLine + 1 := by rw [Array.size_append]; exact hs2
    wp_walk using (wpAny_updateSeq hl rfl (hz := hc1) (_hz' := hz')), wpAny_loadPart' hl, wpAny_loadPart' hb; exact ⟨_, rfl, h⟩
noncomputable def rExtendR (K : PySem.W.Frag) : V → List V → Hp → VK → Prop := fun x vs H Q => ∃ l b xs zs, x = .ref l ∧ vs = [.ref b] ∧ H l = some (.lst xs) ∧ SqL K H b zs ∧ xs.length + zs.length ≤ sizeLine ∧ Q .non (upd H l (.lst (xs ++ zs)))
theorem mt_extendR : MtM X "list.extend" (rExtendR X.K) := by
  intro pins s σ H x vs v us Q I rx rv h
  obtain ⟨l, b, xs, zs, rfl, rfl, hH, hB, hz, q⟩ := h
  cases rx
  obtain ⟨u, rfl, ru⟩ := rv.one
  cases ru
  obtain ⟨z, its, n, r, hl, e⟩ := I.lstM hH
  obtain ⟨z2, its2, n2, sl2, r2, hl2, e2⟩ := lstR I hB
  have hsz : its.toArray.size + its2.toArray.size ≤ sizeLine := by rw [List.size_toArray, List.size_toArray]; omega
  have hlong : ¬ (!its.toArray.isEmpty && Builtin.List.listTooLong (its.toArray.size + its2.toArray.size)) = true := by
    rw [notLongL hsz, Bool.and_false]
    exact Bool.false_ne_true
  refine call_meets F.slot_list_extend ⟨_, e, rfl⟩ F.entry_list_extend (F.args_list_extend_2 _ _)
    (list_extendW l its.toArray n b its2.toArray n2 sl2 hlong (by rw [List.size_toArray]; omega) (by omega)) ⟨e, e2, ?_⟩
  refine ⟨.non, _, I.lset (its' := its ++ its2) hH e (by simp) (r.append r2) ?_, rfl, q⟩
  rw [List.length_append]
  omega
end
theorem splC_ne (c : Nat) : ∀ s, splC c s ≠ []
  | [] => by simp [splC]
  | x :: xs => by
    unfold splC
    split
    · simp
    · split <;> simp
theorem pre_one {c x : Nat} {r : List Nat} : TL.pre [c] (x :: r) = decide (x = c) := by
  simp only [TL.pre, List.length_cons, List.length_nil, Nat.zero_add, List.take_succ_cons, List.take_zero]
  by_cases h : x = c
  · subst h; simp
  · simp [h]
theorem splC_cons (c x : Nat) (xs : List Nat) : splC c (x :: xs) = if x = c then [] :: splC c xs else match splC c xs with
    | [] => [[x]]
    | y :: ys => (x :: y) :: ys := rfl
theorem spl_splC (c : Nat) : ∀ (s acc : List Nat), TL.spl [c] 0 acc s = (match splC c s with
    | [] => [acc]
    | y :: ys => (acc ++ y) :: ys)
  | [], acc => by simp [TL.spl_nil, splC]
  | x :: xs, acc => by
    rw [splC_cons]
    by_cases h : x = c
    · rw [TL.spl_hit (by rw [pre_one]; exact decide_eq_true h)]
      have ih := spl_splC c xs []
      show acc :: TL.spl [c] 0 [] xs = _
      rw [ih, if_pos h]
      cases e : splC c xs with
      | nil => exact absurd e (splC_ne c xs)
      | cons y ys => simp
    · rw [TL.spl_miss (by rw [pre_one]; exact decide_eq_false h), spl_splC c xs, if_neg h]
      cases e : splC c xs with
      | nil => exact absurd e (splC_ne c xs)
      | cons y ys => simp
theorem splC_spl (c : Nat) (s : List Nat) : TL.spl [c] 0 [] s = splC c s := by
  rw [spl_splC]
  cases e : splC c s with
  | nil => exact absurd e (splC_ne c s)
  | cons y ys => simp
theorem strS_tl (s : List Nat) : TL.tl (strS s) = s := rfl
theorem txt_split {s : List Nat} {c : Nat} (hc : c < 256) : Txt.split (strS s) (strS [c]) = (splC c s).map strS := by
  refine TL.map_tl_inj ?_
  rw [TL.split_spl (strS s) (strS [c]) (by simp [strS_tl]) (TL.kind_ok (by simp [strS, hc]))]
  rw [strS_tl, strS_tl, splC_spl, List.map_map]
  conv => lhs; rw [← List.map_id (splC c s)]
  exact List.map_congr_left fun _ _ => rfl
theorem splC_mem {c : Nat} : ∀ {s p : List Nat} {x : Nat}, p ∈ splC c s → x ∈ p → x ∈ s
  | [], p, x, h, hx => by simp only [splC, List.mem_singleton] at h; rw [h] at hx; exact hx
  | y :: ys, p, x, h, hx => by
    unfold splC at h
    split at h
    · rcases List.mem_cons.mp h with h | h
      · rw [h] at hx; cases hx
      · exact List.mem_cons_of_mem _ (splC_mem h hx)
    · cases e : splC c ys with
      | nil => exact absurd e (splC_ne c ys)
      | cons z zs =>
        rw [e] at h
        rcases List.mem_cons.mp h with h | h
        · rw [h] at hx
          rcases List.mem_cons.mp hx with hx | hx
          · rw [hx]; simp
          · exact List.mem_cons_of_mem _ (splC_mem (s := ys) (p := z) (by rw [e]; simp) hx)
        · exact List.mem_cons_of_mem _ (splC_mem (s := ys) (p := p) (by rw [e]; exact List.mem_cons_of_mem _ h) hx)
theorem splC_len {c : Nat} : ∀ s : List Nat, ((splC c s).map List.length).sum + (splC c s).length = s.length + 1
  | [] => by simp [splC]
  | x :: xs => by
    have ih := splC_len (c := c) xs
    unfold splC
    split
    · simp only [List.map_cons, List.length_cons, List.sum_cons, List.length_nil]; omega
    · cases e : splC c xs with
      | nil => exact absurd e (splC_ne c xs)
      | cons z zs =>
        rw [e] at ih
        simp only [List.map_cons, List.length_cons, List.sum_cons] at ih ⊢
        omega
theorem splC_plen {c : Nat} {s p : List Nat} (h : p ∈ splC c s) : p.length ≤ s.length := by
  have h1 := splC_len (c := c) s
  have h2 : ∀ l : List (List Nat), p ∈ l → p.length + l.length ≤ (l.map List.length).sum + l.length := fun l hl => by
    induction l with
    | nil => cases hl
    | cons q l ih =>
      simp only [List.map_cons, List.sum_cons, List.length_cons]
      rcases List.mem_cons.mp hl with e | hl
      · subst e; omega
      · have := ih hl; omega
  have h3 : 0 < (splC c s).length := List.length_pos_iff.mpr (splC_ne c s)
  have := h2 _ h
  omega
theorem partsFrom_len {x : Str} {w : Nat} : ∀ (cuts : List Nat) (a : Nat), (StrLaws.partsFrom x w a cuts).length = cuts.length + 1
  | [], _ => rfl
  | c :: r, a => by
    show (_ :: StrLaws.partsFrom x w _ r).length = _
    rw [List.length_cons, partsFrom_len r, List.length_cons]
theorem txt_count {s : List Nat} {c : Nat} : Txt.count (strS s) (strS [c]) = (((splC c s).length - 1 : Nat) : Int) := by
  obtain ⟨f, g, hn⟩ := StrLaws.occ_tight (strS s) (strS [c]) (TL.len1 (by simp [strS_tl]))
  have key := TL.parts_spl (x := strS s) (y := strS [c]) (by simp [strS_tl]) _ 0 f (Nat.zero_le _) g hn
  rw [List.drop_zero, strS_tl, strS_tl, splC_spl] at key
  have e := congrArg List.length key
  simp only [List.length_map, List.length_zip, List.length_cons, List.length_append, List.length_nil, partsFrom_len] at e
  show ((Builtin.Str.occurrences (strS s) (strS [c]) 0 (strS s).length ((strS s).length + 1)).length : Int) = _
  rw [← e]
  congr 1
theorem preS_pre (t s : List Nat) : preS t s = TL.pre t s := by
  unfold preS TL.pre
  by_cases h : s.take t.length = t
  · rw [decide_eq_true h, h]; simp
  · rw [decide_eq_false h]
    symm
    rw [beq_eq_false_iff_ne]
    exact h
theorem txt_starts {s t : List Nat} (ht : t ≠ []) : Txt.startswith (strS s) (strS t) = preS t s := by
  have h := TL.at_iff (x := strS s) (y := strS t) (by simpa [strS_tl] using ht) 0
  rw [List.drop_zero, strS_tl, strS_tl, ← preS_pre] at h
  unfold Txt.startswith
  cases e : preS t s with
  | true =>
    rw [e] at h
    obtain ⟨h1, h2⟩ := h.mpr rfl
    rw [h2, Bool.and_true]
    exact decide_eq_true h1
  | false =>
    rw [e] at h
    rw [Bool.eq_false_iff]
    intro z
    rw [Bool.and_eq_true, decide_eq_true_eq] at z
    have := h.mp ⟨z.1, z.2⟩
    cases this
theorem par_parC (c : Nat) : ∀ (s acc : List Nat), TL.par [c] acc s = (parC c s).map fun p => (acc ++ p.1, p.2)
  | [], acc => by simp [TL.par, parC]
  | x :: xs, acc => by
    show _ = (if x = c then some ([], xs) else (parC c xs).map fun p => (x :: p.1, p.2)).map fun p => (acc ++ p.1, p.2)
    by_cases h : x = c
    · rw [TL.par_hit (by rw [pre_one]; exact decide_eq_true h), if_pos h]
      simp
    · rw [TL.par_miss (by rw [pre_one]; exact decide_eq_false h), par_parC c xs, if_neg h]
      cases parC c xs <;> simp
theorem txt_part {s : List Nat} {c : Nat} : Txt.partition (strS s) (strS [c]) = (strS (part3 c s).1, strS (part3 c s).2.1, strS (part3 c s).2.2) := by
  have h := TL.partition_par (strS s) (strS [c]) (by simp [strS_tl])
  rw [strS_tl, strS_tl, par_parC] at h
  unfold part3
  cases e : parC c s with
  | none => rw [e] at h; exact h
  | some p => rw [e] at h; exact h
theorem parC_some {c : Nat} : ∀ {s : List Nat} {p : List Nat × List Nat}, parC c s = some p → s = p.1 ++ c :: p.2
  | [], p, h => by cases h
  | x :: xs, p, h => by
    have h' : (if x = c then some ([], xs) else (parC c xs).map fun p => (x :: p.1, p.2)) = some p := h
    by_cases e : x = c
    · rw [if_pos e] at h'
      cases h'
      rw [e]; rfl
    · rw [if_neg e] at h'
      cases e2 : parC c xs with
      | none => rw [e2] at h'; cases h'
      | some q =>
        rw [e2] at h'
        cases h'
        rw [parC_some e2]; rfl
theorem rparC_none {c : Nat} : ∀ {s : List Nat}, rparC c s = none ↔ c ∉ s
  | [] => by simp [rparC]
  | x :: xs => by
    have ih := rparC_none (c := c) (s := xs)
    have e : rparC c (x :: xs) = (match rparC c xs with
      | some p => some (x :: p.1, p.2)
      | none => if x = c then some ([], xs) else none) := rfl
    rw [e]
    cases h : rparC c xs with
    | some p =>
      have : c ∈ xs := Classical.not_not.mp fun z => by rw [ih.mpr z] at h; cases h
      simp [this]
    | none =>
      have := ih.mp h
      by_cases hx : x = c
      · simp [hx]
      · simp only [hx, if_false, true_iff]
        intro z
        rcases List.mem_cons.mp z with z | z
        · exact hx z.symm
        · exact this z
theorem rparC_some {c : Nat} : ∀ {s : List Nat} {p : List Nat × List Nat}, rparC c s = some p ↔ s = p.1 ++ c :: p.2 ∧ c ∉ p.2
  | [], p => by
    constructor
    · intro h; cases h
    · rintro ⟨h, _⟩
      have := congrArg List.length h
      simp at this
  | x :: xs, p => by
    have e : rparC c (x :: xs) = (match rparC c xs with
      | some p => some (x :: p.1, p.2)
      | none => if x = c then some ([], xs) else none) := rfl
    rw [e]
    obtain ⟨p1, p2⟩ := p
    cases h : rparC c xs with
    | some q =>
      have h2 := (rparC_some (c := c) (s := xs) (p := q)).mp h
      constructor
      · intro z
        cases z
        exact ⟨by rw [h2.1]; rfl, h2.2⟩
      · rintro ⟨z1, z2⟩
        cases p1 with
        | nil =>
          cases z1
          exact absurd (by rw [h2.1]; simp) z2
        | cons y p1 =>
          cases z1
          have this := (rparC_some (c := c) (s := p1 ++ c :: p2) (p := (p1, p2))).mpr ⟨rfl, z2⟩
          have this2 := h.symm.trans this
          cases this2
          rfl
    | none =>
      have h2 := rparC_none.mp h
      constructor
      · intro z
        by_cases hx : x = c
        · rw [if_pos hx] at z
          cases z
          exact ⟨by rw [hx]; rfl, h2⟩
        · rw [if_neg hx] at z; cases z
      · rintro ⟨z1, z2⟩
        cases p1 with
        | nil =>
          cases z1
          rw [if_pos rfl]
        | cons y p1 =>
          cases z1
          exact absurd (by simp) h2
theorem at_one {s : List Nat} {c i : Nat} : StrLaws.At (strS s) (strS [c]) (strS s).length i ↔ s[i]? = some c := by
  rw [TL.at_iff (by simp [strS_tl]), strS_tl, strS_tl]
  cases h : s.drop i with
  | nil =>
    have : s.length ≤ i := List.drop_eq_nil_iff.mp h
    rw [List.getElem?_eq_none this]
    simp [TL.pre]
  | cons x r =>
    rw [pre_one]
    have : s[i]? = some x := by rw [← List.head?_drop, h]; rfl
    rw [this]
    simp
theorem txt_last {s : List Nat} {c : Nat} : (match Builtin.Str.lastOccurrence (strS s) (strS [c]) 0 (strS s).length with
    | some i => (strS (s.take i), strS [c], strS (s.drop (i + 1)))
    | none => (strS [], strS [], strS s)) = (strS (rpart3 c s).1, strS (rpart3 c s).2.1, strS (rpart3 c s).2.2) := by
  unfold rpart3
  rcases StrLaws.last_spec (strS s) (strS [c]) with ⟨h1, h2⟩ | ⟨i, h1, h2, h3⟩
  · have : c ∉ s := fun z => by
      obtain ⟨i, hi⟩ := List.getElem?_of_mem z
      exact h2 i (at_one.mpr hi)
    rw [h1, rparC_none.mpr this]
  · have e := at_one.mp h2
    obtain ⟨hl, e⟩ := List.getElem?_eq_some_iff.mp e
    have : rparC c s = some (s.take i, s.drop (i + 1)) := rparC_some.mpr ⟨by
      rw [← e, List.getElem_cons_drop, List.take_append_drop], fun z => by
      obtain ⟨j, hj⟩ := List.getElem?_of_mem z
      rw [List.getElem?_drop] at hj
      exact h3 (i + 1 + j) (by omega) (at_one.mpr hj)⟩
    rw [h1, this]
theorem strSub_take (s : List Nat) (i : Nat) : Builtin.Str.strSub (strS s) 0 i = strS (s.take i) := TL.ext_tl (by
  rw [TL.tl_strSub, strS_tl, strS_tl, List.drop_zero, Nat.sub_zero])
theorem strSub_drop (s : List Nat) (i : Nat) : Builtin.Str.strSub (strS s) i (strS s).length = strS (s.drop i) := TL.ext_tl (by
  rw [TL.tl_strSub_end, strS_tl, strS_tl])
theorem mt_rpart {X : Cx} : MtR X "str.rpartition" (fun x xs H Q => ∃ s c, x = .str (strS s) ∧ xs = [.str (strS [c])] ∧ s.length ≤ sizeLine ∧
    ∀ p, H p = none → Q (.ref p) (upd H p (.tup [.str (strS (rpart3 c s).1), .str (strS (rpart3 c s).2.1), .str (strS (rpart3 c s).2.2)]))) := by
  intro pins s σ H x xs v us Q I rx rs h
  obtain ⟨a, c, rfl, rfl, hz, h⟩ := h
  obtain ⟨t, rfl⟩ := rx
  cases rs with
  | cons r1 rs =>
    cases rs
    obtain ⟨u, rfl⟩ := r1
    refine call_meets F.slot_str_rpartition (typeIs_str _ _ _) F.entry_str_rpartition (F.args_str_rpartition_2 _ _) (PySem.meets_str_rpartition (strS a) (strS [c]) t u rfl (by simpa [Str.length, strS] using hz)) ?_
    have e := txt_last (s := a) (c := c)
    revert e
    cases Builtin.Str.lastOccurrence (strS a) (strS [c]) 0 (strS a).length with
    | none =>
      intro e
      have e1 := congrArg Prod.fst e
      have e2 := congrArg (fun z => z.2.1) e
      have e3 := congrArg (fun z => z.2.2) e
      simp only at e1 e2 e3
      rw [← e1, ← e2, ← e3] at h
      exact laid_parts I h
    | some i =>
      intro e
      have e1 := congrArg Prod.fst e
      have e2 := congrArg (fun z => z.2.1) e
      have e3 := congrArg (fun z => z.2.2) e
      simp only at e1 e2 e3
      rw [← e1, ← e2, ← e3, ← strSub_take, ← strSub_drop] at h
      exact laid_parts I h
theorem low_one : ∀ c, c < 128 → Txt.islower (strS [c]) = decide (97 ≤ c ∧ c ≤ 122) := by
  decide +kernel
theorem dig_one : ∀ c, c < 128 → Txt.isdigit (strS [c]) = decide (48 ≤ c ∧ c ≤ 57) := by
  decide +kernel
theorem count_pds {w : U} : ∀ (xs : List U) {n m : Nat}, okUs n xs = true → okU m w = true → ((pds xs).countP fun y => PyData.eqv y (pd w)) = xs.countP fun y => eqU y w
  | [], _, _, _, _ => rfl
  | x :: xs, n, m, h, k => by
    simp only [okUs, Bool.and_eq_true] at h
    simp only [pds, List.countP_cons, count_pds xs h.2 k, eqv_eqU x w h.1 k]
noncomputable def rCntD (K : PySem.W.Frag) : V → List V → Hp → VK → Prop := fun x xs H Q => ∃ ww ex ul u y, xs = [y] ∧ Vw ww K H ex (.lst ul) x ∧ Vw ww K H ex u y ∧ okUs deepU ul = true ∧ okU deepU u = true ∧ Q (.int ((ul.countP fun z => eqU z u : Nat) : Int)) H
theorem mt_lcountD {X : Cx} (hu : X.A.units + 64 < cLine) : MtR X "list.count" (rCntD X.K) := by
  intro pins s σ H x xs v us Q I rx rxs h
  obtain ⟨ww, ex, ul, u, y, rfl, h1, h2, h3, h4, q⟩ := h
  obtain ⟨w, rfl, rw'⟩ := rxs.one
  obtain ⟨⟨as, r1⟩, c1, d1⟩ := reads_vw I h4 h2 rw'
  obtain ⟨⟨bs, r2⟩, c2, d2⟩ := reads_vw I (n := deepU + 1) (u := .lst ul) (by simpa only [okU] using h3) h1 rx
  simp only [pd, PyData.canLay0, PyData.depth] at r2 c2 d2
  have room : X.A.units + 1 + min (PyData.depthAll (pds ul)) (pd u).depth < cLine := by
    have : deepU = 40 := rfl
    have := Nat.min_le_right (PyData.depthAll (pds ul)) (pd u).depth
    omega
  cases r2 with
  | list g1 g2 g3 g4 =>
    refine SeqAt.count_list_data ⟨_, g1, g2, _, g3⟩ g4 r1 (PyData.plainAll_of_canLay0 _ c2) (PyData.plain_of_canLay0 _ c1) room ?_
    rw [count_pds ul h3 h4]
    exact ⟨.int _, H, I.tok _, ⟨_, rfl⟩, q⟩
theorem good_nil : GoodS [] := ⟨Nat.zero_le _, fun _ h => by cases h⟩
theorem part3_good {c : Nat} {s : List Nat} (h : GoodS s) (hc : c < 1114112) : GoodS (part3 c s).1 ∧ GoodS (part3 c s).2.1 ∧ GoodS (part3 c s).2.2 := by
  have h1 : GoodS [c] := ⟨by rw [sizeLine_def]; simp, fun d hd => by rw [List.mem_singleton.mp hd]; exact hc⟩
  unfold part3
  cases e : parC c s with
  | none => exact ⟨h, good_nil, good_nil⟩
  | some p =>
    have e2 := parC_some e
    refine ⟨h.subl (by rw [e2]; simp) fun d hd => by rw [e2]; simp [hd], h1, h.subl (by rw [e2]; simp; omega) fun d hd => by rw [e2]; simp [hd]⟩
theorem rpart3_good {c : Nat} {s : List Nat} (h : GoodS s) (hc : c < 1114112) : GoodS (rpart3 c s).1 ∧ GoodS (rpart3 c s).2.1 ∧ GoodS (rpart3 c s).2.2 := by
  have h1 : GoodS [c] := ⟨by rw [sizeLine_def]; simp, fun d hd => by rw [List.mem_singleton.mp hd]; exact hc⟩
  unfold rpart3
  cases e : rparC c s with
  | none => exact ⟨good_nil, good_nil, h⟩
  | some p =>
    have e2 := (rparC_some.mp e).1
    refine ⟨h.subl (by rw [e2]; simp) fun d hd => by rw [e2]; simp [hd], h1, h.subl (by rw [e2]; simp; omega) fun d hd => by rw [e2]; simp [hd]⟩
noncomputable def Mt.T : Mt → String
  | .append => "list" | .extend => "list" | .pop => "list" | .lindex => "list" | .popi => "list" | .lcount => "list" | .get => "dict" | .dpop => "dict" | .dclear => "dict" | .tget => "dict" | .tpop => "dict" | _ => "str"
section
variable {c : Cx0} {n : Nat} {X : Cx} {K : Ck} {L Z Z' : Addr → Prop} {σ : L2.St} {H H1 H2 : Hp} {ρ ρ1 ρ2 : Rho} {G G1 G2 : Hh} {f ex : Addr → Prop} {x y v : V} {u w : U} {Qm : Kc} {Q : VK} {a b d : E} {e1 e2 e3 : Expr} {pos p2 : Pos} {r : R} {ca : Cs} {Γ : Cal} {Kf : PySem.W.Frag}
theorem recv_ty {ww : World} {m : Mt} (nd : m.isD = false) (h : Vw ww X.K H ex u x) (hr : recM m u = true) : tyV X.K m.T x H := by
  cases u <;> try (cases hr; done)
  · cases m <;> try (cases hr; done)
    all_goals
      simp only [Vw, RepU] at h
      rw [h.1]
      rfl
  · cases m <;> try (cases hr; done)
    all_goals
      obtain ⟨a, vs, e, t, q⟩ := h
      rw [e]
      exact .inl ⟨rfl, vs, t⟩
  · cases m <;> first | (cases hr; done) | (cases nd; done)
  · cases m <;> first | (cases hr; done) | (cases nd; done)
theorem br_out {b : Bool} {A : Prop} (h : Br b A False) : b = true ∧ A := by
  cases b with
  | true => exact ⟨rfl, h⟩
  | false => exact h.elim
/-- a write set that is the same -/
theorem Ext.upd' {H0 : Hp} {f0 f1 f2 : Addr → Prop} {p : Addr} {o : HO} (h : Ext H0 f0 H f1) (hp : f1 p) (hf : ∀ a, f2 a ↔ f1 a) : Ext H0 f0 (upd H p o) f2 := fun a w e n => by
  obtain ⟨h1, h2⟩ := h a w e n
  have np : a ≠ p := fun z => h2 (by rw [z]; exact hp)
  exact ⟨by rw [upd_ne np]; exact h1, fun z => h2 ((hf a).mp z)⟩
theorem repUs_one {Hx : Hp} {us : List U} (h : RepUs Kf Hx ex us [y]) : ∃ u, us = [u] ∧ RepU Kf Hx ex u y := by
  cases us with
  | nil => simp [RepUs] at h
  | cons u us =>
    simp only [RepUs] at h
    obtain ⟨v, t, e, q1, q2⟩ := h
    cases e
    cases us with
    | nil => exact ⟨u, rfl, q1⟩
    | cons w ws => simp [RepUs] at q2
theorem joinS_join (s : List Nat) : ∀ ys : List (List Nat), joinS s ys = TL.joinL s ys
  | [] => rfl
  | [_] => rfl
  | x :: y :: r => by
    show x ++ (s ++ joinS s (y :: r)) = x ++ (s ++ TL.joinL s (y :: r))
    rw [joinS_join s (y :: r)]
theorem join_str (s : List Nat) (ys : List (List Nat)) : Txt.join ⟨s.toArray⟩ (ys.map strS) = ⟨(joinS s ys).toArray⟩ := by
  rw [TL.join_eq, joinS_join]
  have h := TL.tl_join ⟨s.toArray⟩ (ys.map strS)
  have e : (ys.map strS).map TL.tl = ys := by
    rw [List.map_map]
    conv => rhs; rw [← List.map_id ys]
    congr 1
  rw [e] at h
  have e2 : TL.tl ⟨s.toArray⟩ = s := rfl
  rw [e2] at h
  generalize hz : Str.join ⟨s.toArray⟩ (ys.map strS) = z at h
  cases z
  rename_i cps
  have h' : cps.toList = TL.joinL s ys := h
  rw [← h']
theorem joinS_mem {s : List Nat} {c : Nat} : ∀ {ys : List (List Nat)}, c ∈ joinS s ys → c ∈ s ∨ ∃ y ∈ ys, c ∈ y
  | [], h => by simp [joinS] at h
  | [x], h => .inr ⟨x, by simp, h⟩
  | x :: y :: r, h => by
    have h' : c ∈ x ++ (s ++ joinS s (y :: r)) := h
    rw [List.mem_append, List.mem_append] at h'
    rcases h' with h' | h' | h'
    · exact .inr ⟨x, by simp, h'⟩
    · exact .inl h'
    · rcases joinS_mem h' with z | ⟨q, hq, z⟩
      · exact .inl z
      · exact .inr ⟨q, List.mem_cons_of_mem _ hq, z⟩
theorem joinS_len (s : List Nat) : ∀ ys : List (List Nat), (joinS s ys).length ≤ (ys.map List.length).sum + ys.length * s.length
  | [] => by simp [joinS]
  | [x] => by simp [joinS]
  | x :: y :: r => by
    have := joinS_len s (y :: r)
    show (x ++ (s ++ joinS s (y :: r))).length ≤ _
    rw [List.length_append, List.length_append]
    simp only [List.map_cons, List.sum_cons, List.length_cons] at this ⊢
    have e : (r.length + 1 + 1) * s.length = (r.length + 1) * s.length + s.length := by rw [Nat.succ_mul]
    omega
/-- one answer as an argument -/
theorem valL_one {ww : World} {rs : List Mp.R} {vs : List V} {q : Mp.R} (h : ValL ww X.K H ex σ [q] vs) : ∃ y, vs = [y] ∧ Val ww X.K H ex σ q y := by
  obtain ⟨v, t, e, q1, q2⟩ := h
  have q2' : t = [] := q2
  subst q2'
  exact ⟨v, e, q1⟩
/-- what a method's rule asks -/
noncomputable def rMt (m : Mt) (K : PySem.W.Frag) : L2.St → V → List V → Hp → VK → Prop := match m with
  | .append => fun _ => rAppend
  | .extend => fun _ => rExtendR K
  | .pop => fun _ => rPop
  | .popi => fun _ => rPopAt
  | .sindex => rIndexX fun _ _ _ _ => False
  | .lindex => fun _ => rIndex K
  | .join => fun _ x xs H Q => ∃ a p, ∃ ys : List Str, x = .str a ∧ xs = [.ref p] ∧ (SqL K H p (ys.map V.str) ∨ SqT K H p (ys.map V.str)) ∧ (ys.map (·.length)).sum + ys.length * a.length ≤ 16777216 ∧ Q (.str (Txt.join a ys)) H
  | .startswith => fun _ x xs H Q => ∃ a b, x = .str a ∧ xs = [.str b] ∧ Q (.bl (Txt.startswith a b)) H
  | .split => fun _ x xs H Q => ∃ a b, x = .str a ∧ xs = [.str b] ∧ (b.length == 0) = false ∧ a.length + 2 ≤ sizeLine ∧ rNewStrs (Txt.split a b) H Q
  | .part => fun _ x xs H Q => ∃ a b, x = .str a ∧ xs = [.str b] ∧ (b.length == 0) = false ∧ a.length ≤ sizeLine ∧ ∀ p, H p = none → Q (.ref p) (upd H p (.tup [.str (Txt.partition a b).1, .str (Txt.partition a b).2.1, .str (Txt.partition a b).2.2]))
  | .rpart => fun _ x xs H Q => ∃ s c, x = .str (strS s) ∧ xs = [.str (strS [c])] ∧ s.length ≤ sizeLine ∧ ∀ p, H p = none → Q (.ref p) (upd H p (.tup [.str (strS (rpart3 c s).1), .str (strS (rpart3 c s).2.1), .str (strS (rpart3 c s).2.2)]))
  | .scount => fun _ x xs H Q => ∃ a b, x = .str a ∧ xs = [.str b] ∧ Q (.int (Txt.count a b)) H
  | .islow => fun _ x xs H Q => ∃ a, x = .str a ∧ xs = [] ∧ True ∧ Q (.bl (Txt.islower a)) H
  | .isdig => fun _ x xs H Q => ∃ a, x = .str a ∧ xs = [] ∧ True ∧ Q (.bl (Txt.isdigit a)) H
  | .lcount => fun _ => rCntD K
  | _ => fun _ _ _ _ _ => False
theorem takesF : Takes X fun _ _ _ _ => False := fun u s' ⟨_, _, _, _, _, _, _, _, _, _, _, _, _, _, _, _, h⟩ => h.elim
/-- what is reserved may change -/
theorem Rep.reserved {p : Addr} {o : HO} (R : Rep ca Kf L Z σ H ρ G) (hz : Z p) (hl : ¬ L p) : Rep ca Kf L Z σ (upd H p o) ρ G := by
  have nf := (R.zd p hz).1
  have hx : Ext H (Or2 (fp σ ρ G) Z) (upd H p o) (Or2 (fp σ ρ G) Z) := fun a w e n => by
    have hne : a ≠ p := fun z => by subst z; exact n (.inr hz)
    exact ⟨by rw [upd_ne hne]; exact e, n⟩
  refine ⟨R.len, fun i sv e => ?_, R.own, R.ownG, fun a ob e => ?_, fun a z => ⟨(R.zd a z).1, ?_⟩⟩
  · obtain ⟨v, e1, q⟩ := R.slot i sv e
    refine ⟨v, e1, ?_⟩
    cases sv with
    | u x => exact RepU.ext hx x q
    | own x =>
      obtain ⟨b, w, e2, e3, q⟩ := q
      subst e2
      have hne : b ≠ p := fun z => by subst z; exact nf (.inr ⟨i, x, e, e1⟩)
      exact ⟨b, w, rfl, by rw [upd_ne hne]; exact e3, q.ext hx⟩
    | fz t x =>
      obtain ⟨e2, ⟨n, l⟩, w, e3, q⟩ := q
      have ht : t ≠ p := fun z => by subst z; exact hl l
      exact ⟨e2, ⟨n, l⟩, w, e3.imp (fun e3 => by rw [upd_ne ht]; exact e3) (fun ⟨od, e3⟩ => ⟨od, by rw [upd_ne ht]; exact e3⟩), q.ext hx⟩
    | exc k d => exact RepE.ext hx q
  · obtain ⟨ho, e1, q⟩ := R.heap a ob e
    have hne : a ≠ p := fun z => by subst z; exact nf (.inl ⟨ob, e⟩)
    exact ⟨ho, by rw [upd_ne hne]; exact e1, q.ext hx⟩
  · obtain ⟨_, w, e⟩ := R.zd a z
    by_cases q : a = p
    · subst q; exact ⟨_, upd_same⟩
    · exact ⟨w, by rw [upd_ne q]; exact e⟩
theorem idxOfL_spec {s : List Nat} : ∀ {ss : List (List Nat)} {k j : Nat}, idxOfL s ss k = some j → ∃ i, j = k + i ∧ ss[i]? = some s ∧ ∀ m, m < i → ∀ t, ss[m]? = some t → t ≠ s
  | [], _, _, h => by cases h
  | x :: xs, k, j, h => by
    unfold idxOfL at h
    split at h
    · rename_i e
      cases h
      exact ⟨0, rfl, by rw [e]; rfl, fun m hm => absurd hm (Nat.not_lt_zero _)⟩
    · rename_i ne
      obtain ⟨i, e, h1, h2⟩ := idxOfL_spec h
      refine ⟨i + 1, by omega, by simpa using h1, fun m hm t ht => ?_⟩
      cases m with
      | zero => simp at ht; exact fun z => ne (by rw [ht, z])
      | succ m => exact h2 m (by omega) t (by simpa using ht)
theorem repUs_erase {Hx : Hp} : ∀ {us : List U} {vs : List V}, RepUs Kf Hx ex us vs → ∀ k, RepUs Kf Hx ex (us.eraseIdx k) (vs.eraseIdx k)
  | [], vs, r, k => by
    simp only [RepUs] at r
    subst r
    simp [RepUs]
  | u :: us, vs, r, k => by
    simp only [RepUs] at r
    obtain ⟨v, t, e, q1, q2⟩ := r
    subst e
    cases k with
    | zero => exact q2
    | succ k =>
      simp only [List.eraseIdx_cons_succ, RepUs]
      exact ⟨v, _, rfl, q1, repUs_erase q2 k⟩
/-- the heart: from the small method to the rule's wish -/
theorem mt_of {m : Mt} (nd : m.isD = false) {ro : Mp.R} {rs : List Mp.R} {vs : List V} (R : Rep c.ca X.K L (Or2 (Or2 Z (Hd ro x)) (Hds rs vs)) σ H ρ G) (hx : Ext H1 f H (fp σ ρ G)) (en : EndE c X L Z σ H1 f Qm Q)
    (qo : Val c.ca.w X.K H (Or2 (fp σ ρ G) (Or2 (Or2 Z (Hd ro x)) (Hds rs vs))) σ ro x) (qs : ValL c.ca.w X.K H (Or2 (fp σ ρ G) (Or2 (Or2 Z (Hd ro x)) (Hds rs vs))) σ rs vs) (ap : Apart rs vs) (nw : ∀ p, Hds rs vs p → ¬ Or2 Z (Hd ro x) p) (hL : ∀ a, L a → Z a) (hw : ∀ p, Hd ro x p → (H1 p = none ∨ f p) ∧ ¬ Z p)
    (h : mtK m ro rs ρ G Qm) : rMt m X.K σ x vs H Q := by
  have hz : ∀ a, Z a → Or2 (Or2 Z (Hd ro x)) (Hds rs vs) a := fun a z => .inl (.inl z)
  cases m with
  | append =>
    cases rs with
    | nil => exact h.elim
    | cons q rs =>
      cases rs with
      | cons _ _ => exact h.elim
      | nil =>
        obtain ⟨us, ρ', k, R', q', sub⟩ := toUs_ok (K0 := fun vs ρ1 => match vs with
          | [v] => vwK ro ρ1 G fun x => match x with
            | .lst xs => xs.length < sizeLine ∧ putT ro (.lst (xs ++ [v])) ρ1 G fun ρ2 G2 => Qm (.u .non) ρ2 G2
            | _ => False
          | _ => False) R qs ap nw h
        obtain ⟨y, e, _⟩ := valL_one (rs := [q]) qs
        subst e
        obtain ⟨v, e, qv⟩ := repUs_one q'
        subst e
        have qo' : Val c.ca.w X.K H (Or2 (fp σ ρ' G) (Or2 Z (Hd ro x))) σ ro x := qo.ext (Ext.sub fun a z => z.elim (fun z => .inl (sub a z)) fun z => .inr (.inl z))
        obtain ⟨u, eu, k⟩ := vwK_out k
        cases u <;> try exact k.elim
        rename_i xs
        have hx2 : Ext H1 f H (fp σ ρ' G) := fun a o e n => ⟨(hx a o e n).1, fun z => (hx a o e n).2 (sub a z)⟩
        by_cases ht : ∃ y, ro = .tmp y
        · obtain ⟨y0, ht⟩ := ht
          subst ht
          cases eu
          obtain ⟨p, o, e1, e2, vs, e3, q1⟩ := qo'
          subst e1 e3
          have hp : Hd (.tmp (.lst xs)) (.ref p) p := rfl
          have R3 : Rep c.ca X.K L (Or2 Z (Hd (.tmp (.lst xs)) (.ref p))) σ (upd H p (.lst (vs ++ [y]))) ρ' G := R'.reserved (.inr hp) fun z => (hw p hp).2 (hL p z)
          refine ⟨p, vs, y, rfl, rfl, e2, by rw [← q1.length]; exact k.1, ?_⟩
          refine en.ofU R3 (fun a z => .inl z) (fun a o e n => ⟨?_, (hx2 a o e n).2⟩) (u := .non) (by simp only [RepU]) k.2
          rw [upd_ne (fun z => ?_)]
          · exact (hx2 a o e n).1
          · subst z
            rcases (hw _ hp).1 with q | q
            · rw [q] at e; cases e
            · exact n q
        have k2 : putR ro (.lst (xs ++ [v])) ρ' G fun ρ2 G2 => Qm (.u .non) ρ2 G2 := by
          have := k.2
          cases ro with
          | tmp y0 => exact absurd ⟨y0, rfl⟩ ht
          | u z => exact this
          | lv z => exact this
          | exc z => exact this
        obtain ⟨p, vs, e1, e2, q1, go⟩ := put_list (K0 := fun ρ2 G2 => Qm (.u .non) ρ2 G2) R' qo' eu k2
        have qn : RepUs X.K H (Or2 (fp σ ρ' G) (Or2 Z (Hd ro x))) (xs ++ [v]) (vs ++ [y]) := q1.append (by simp only [RepUs]; exact ⟨y, [], rfl, qv, rfl⟩)
        obtain ⟨ρ3, G3, kk, R3, hf, hp⟩ := go (vs ++ [y]) qn
        refine ⟨p, vs, y, e1, rfl, e2, by rw [← q1.length]; exact k.1, ?_⟩
        exact en.ofU R3 (fun a z => .inl z) (hx2.upd' hp hf) (u := .non) (by simp only [RepU]) kk
  | extend =>
    cases rs with
    | nil => exact h.elim
    | cons q rs =>
      cases rs with
      | cons _ _ => exact h.elim
      | nil =>
        obtain ⟨y, e, qy⟩ := valL_one (rs := [q]) qs
        subst e
        obtain ⟨w, ew, h⟩ := vwK_out h
        obtain ⟨u, eu, h⟩ := vwK_out h
        have hw := vw_ok R qy ew
        cases u <;> try exact h.elim
        cases w <;> try exact h.elim
        rename_i xs ys
        obtain ⟨b, zs, e3, e4, q4⟩ := hw
        obtain ⟨p, vs, e1, e2, q1, go⟩ := put_list (K0 := fun ρ2 G2 => Qm (.u .non) ρ2 G2) R qo eu h.2
        obtain ⟨ρ3, G3, kk, R3, hf, hp⟩ := go (vs ++ zs) (q1.append q4)
        refine ⟨p, b, vs, zs, e1, by rw [e3], e2, e4, by rw [← q1.length, ← q4.length]; exact h.1, ?_⟩
        exact en.ofU R3 hz (hx.upd' hp hf) (u := .non) (by simp only [RepU]) kk
  | pop =>
    cases rs with
    | cons _ _ => exact h.elim
    | nil =>
      have e : vs = [] := qs
      subst e
      obtain ⟨u, eu, h⟩ := vwK_out h
      cases u <;> try exact h.elim
      rename_i xs
      obtain ⟨v, ev, h⟩ := optK_out h
      obtain ⟨p, vs, e1, e2, q1, go⟩ := put_list (K0 := fun ρ2 G2 => Qm (.u v) ρ2 G2) R qo eu h
      obtain ⟨ρ3, G3, kk, R3, hf, hp⟩ := go vs.dropLast q1.dropLast
      rw [List.getLast?_eq_getElem?] at ev
      obtain ⟨y, e4, q4⟩ := q1.get ev
      rw [q1.length] at e4
      refine ⟨p, vs, y, e1, rfl, e2, e4, ?_⟩
      have hxx : Ext H (Or2 (fp σ ρ G) (Or2 (Or2 Z (Hd ro x)) (Hds [] []))) (upd H p (.lst vs.dropLast)) (Or2 (fp σ ρ3 G3) (Or2 (Or2 Z (Hd ro x)) (Hds [] []))) := fun a o e n =>
        ⟨by rw [upd_ne (fun z : a = p => n (.inl (by rw [z]; exact hp)))]; exact e, fun z => n (z.elim (fun z => .inl ((hf a).mp z)) .inr)⟩
      exact en.ofU R3 hz (hx.upd' hp hf) (RepU.ext hxx v q4) kk
  | popi =>
    cases rs with
    | nil => exact h.elim
    | cons q rs =>
      cases rs with
      | cons _ _ => exact h.elim
      | nil =>
        obtain ⟨y, e, qy⟩ := valL_one (rs := [q]) qs
        subst e
        obtain ⟨w, ew, h⟩ := vwK_out h
        have hw := vw_ok R qy ew
        cases w <;> try exact h.elim
        rename_i i
        obtain ⟨u, eu, h⟩ := vwK_out h
        cases u <;> try exact h.elim
        rename_i xs
        have hlen := h.1
        obtain ⟨k, ek, h⟩ := optK_out h.2
        obtain ⟨v, ev, h⟩ := optK_out h
        obtain ⟨p, vs, e1, e2, q1, go⟩ := put_list (K0 := fun ρ2 G2 => Qm (.u v) ρ2 G2) R qo eu h
        obtain ⟨ρ3, G3, kk, R3, hf, hp⟩ := go (vs.eraseIdx k) (repUs_erase q1 k)
        obtain ⟨y0, e4, q4⟩ := q1.get ev
        obtain ⟨s1, s2, s3, s4⟩ := L2.ixN_seq ek
        have hwi : y = .int i := by simpa only [Vw, RepU] using hw
        refine ⟨p, vs, i, k, y0, e1, by rw [hwi], e2, ?_, ?_, by rw [← q1.length]; exact s1, e4, ?_⟩
        · rw [sizeLine_def] at hlen
          omega
        · rw [sizeLine_def] at hlen
          omega
        have hxx : Ext H (Or2 (fp σ ρ G) (Or2 (Or2 Z (Hd ro x)) (Hds [q] [y]))) (upd H p (.lst (vs.eraseIdx k))) (Or2 (fp σ ρ3 G3) (Or2 (Or2 Z (Hd ro x)) (Hds [q] [y]))) := fun a o e n =>
          ⟨by rw [upd_ne (fun z : a = p => n (.inl (by rw [z]; exact hp)))]; exact e, fun z => n (z.elim (fun z => .inl ((hf a).mp z)) .inr)⟩
        exact en.ofU R3 hz (hx.upd' hp hf) (RepU.ext hxx v q4) kk
  | sindex =>
    cases rs with
    | nil => exact h.elim
    | cons q rs =>
      cases rs with
      | cons _ _ => exact h.elim
      | nil =>
        obtain ⟨y, e, qy⟩ := valL_one (rs := [q]) qs
        subst e
        obtain ⟨u, eu, h⟩ := vwK_out h
        cases u <;> try exact h.elim
        rename_i s
        obtain ⟨w, ew, h⟩ := vwK_out h
        have hv := vw_ok R qo eu
        have hw := vw_ok R qy ew
        cases w <;> try exact h.elim
        rename_i t
        cases t with
        | nil => exact h.elim
        | cons c0 t =>
          cases t with
          | cons _ _ => exact h.elim
          | nil =>
            obtain ⟨k, ek, h⟩ := optK_out h
            simp only [Vw, RepU] at hv hw
            have hi := index0_one ek
            refine ⟨_, _, hv.1, by rw [hw.1], fun k' e => ?_, fun e => ?_⟩
            · have e' : Txt.index0 ⟨s.toArray⟩ ⟨#[c0]⟩ = some k' := e
              rw [hi] at e'
              cases e'
              exact en.ofU R hz hx (u := .int k) (by simp only [RepU]) h
            · have e' : Txt.index0 ⟨s.toArray⟩ ⟨#[c0]⟩ = none := e
              rw [hi] at e'
              cases e'
  | lindex =>
    cases rs with
    | nil => exact h.elim
    | cons q rs =>
      cases rs with
      | cons _ _ => exact h.elim
      | nil =>
        obtain ⟨y, e, qy⟩ := valL_one (rs := [q]) qs
        subst e
        obtain ⟨u, eu, h⟩ := vwK_out h
        cases u <;> try exact h.elim
        obtain ⟨w, ew, h⟩ := vwK_out h
        have hv := vw_ok R qo eu
        have hw := vw_ok R qy ew
        cases w <;> try exact h.elim
        rename_i s
        obtain ⟨ss, e2, h⟩ := optK_out h
        obtain ⟨k, ek, h⟩ := optK_out h
        obtain ⟨a, vs, e1, t, q1⟩ := hv
        obtain ⟨e3, hg⟩ := allStr_out e2 q1
        subst e3
        obtain ⟨i, e4, h1, h2⟩ := idxOfL_spec ek
        have hw : y = .str (strS s) ∧ GoodS s := by simpa only [Vw, RepU, strS] using hw
        refine ⟨a, (ss.map strS).map V.str, y, i, .str (strS s), e1, rfl, t, by rw [hw.1]; rfl, ?_, by rw [List.getElem?_map, List.getElem?_map, h1]; rfl, by rw [hw.1]; simp [eqV], fun m z hm hz => ?_, ?_⟩
        · rw [List.all_eq_true]
          intro z hz
          obtain ⟨z', _, rfl⟩ := List.mem_map.mp hz
          rfl
        · rw [List.getElem?_map, List.getElem?_map] at hz
          cases hm2 : ss[m]? with
          | none => rw [hm2] at hz; cases hz
          | some t0 =>
            rw [hm2] at hz
            cases hz
            have hne := h2 m hm t0 hm2
            rw [hw.1]
            show (strS t0 == strS s) = false
            simp only [beq_eq_false_iff_ne, ne_eq]
            intro z
            have := congrArg (fun s : Str => s.cps.toList) z
            exact hne (by simpa only [strS_list'] using this)
        · have e5 : k = i := by omega
          subst e5
          exact en.ofU R hz hx (u := .int k) (by simp only [RepU]) h
  | join =>
    cases rs with
    | nil => exact h.elim
    | cons q rs =>
      cases rs with
      | cons _ _ => exact h.elim
      | nil =>
        obtain ⟨y, e, qy⟩ := valL_one (rs := [q]) qs
        subst e
        obtain ⟨u, eu, h⟩ := vwK_out h
        cases u <;> try exact h.elim
        rename_i s
        obtain ⟨w, ew, h⟩ := vwK_out h
        have hv := vw_ok R qo eu
        have hw := vw_ok R qy ew
        cases w <;> try exact h.elim
        obtain ⟨ys, ey, h⟩ := optK_out h
        simp only [Vw, RepU] at hv
        obtain ⟨p, vs, e1, t, q1⟩ := hw
        obtain ⟨e2, gs⟩ := allStr_out ey q1
        subst e2
        refine ⟨_, p, ys.map strS, hv.1, by rw [e1], .inl t, ?_, ?_⟩
        · have h1 := h.1
          rw [sizeLine_def] at h1
          rw [List.map_map, List.length_map]
          exact h1
        · rw [join_str]
          refine en.ofU R hz hx (u := .str (joinS s ys)) ?_ h.2
          simp only [RepU]
          refine ⟨trivial, Nat.le_trans (joinS_len s ys) h.1, fun z hz => ?_⟩
          rcases joinS_mem hz with m | ⟨q, hq, m⟩
          · exact hv.2.2 z m
          · exact (gs q hq).2 z m
  | startswith =>
    cases rs with
    | nil => exact h.elim
    | cons q rs =>
      cases rs with
      | cons _ _ => exact h.elim
      | nil =>
        obtain ⟨y, e, qy⟩ := valL_one (rs := [q]) qs
        subst e
        obtain ⟨u, eu, h⟩ := vwK_out h
        cases u <;> try exact h.elim
        rename_i s
        obtain ⟨w, ew, h⟩ := vwK_out h
        have hv := vw_ok R qo eu
        have hw := vw_ok R qy ew
        cases w <;> try exact h.elim
        rename_i t
        simp only [Vw, RepU] at hv hw
        refine ⟨strS s, strS t, hv.1, by rw [hw.1]; rfl, ?_⟩
        rw [txt_starts h.1]
        exact en.ofU R hz hx (u := .bl (preS t s)) (by simp only [RepU]) h.2
  | split =>
    cases rs with
    | nil => exact h.elim
    | cons q rs =>
      cases rs with
      | cons _ _ => exact h.elim
      | nil =>
        obtain ⟨y, e, qy⟩ := valL_one (rs := [q]) qs
        subst e
        obtain ⟨u, eu, h⟩ := vwK_out h
        cases u <;> try exact h.elim
        rename_i s
        obtain ⟨w, ew, h⟩ := vwK_out h
        have hv := vw_ok R qo eu
        have hw := vw_ok R qy ew
        cases w <;> try exact h.elim
        rename_i t
        simp only [Vw, RepU] at hv hw
        match t, h, hw with
        | [c], h, hw =>
          refine ⟨strS s, strS [c], hv.1, by rw [hw.1]; rfl, rfl, by simpa [Str.length, strS] using h.1.2, fun p hp => ?_⟩
          rw [txt_split h.1.1]
          refine en.new R hz hx hp (u := .lst ((splC c s).map U.str)) ⟨_, rfl, repUs_strs' _ fun z hz => ?_⟩ h.2
          exact ⟨Nat.le_trans (splC_plen hz) hv.2.1, fun d hd => hv.2.2 d (splC_mem hz hd)⟩
  | part =>
    cases rs with
    | nil => exact h.elim
    | cons q rs =>
      cases rs with
      | cons _ _ => exact h.elim
      | nil =>
        obtain ⟨y, e, qy⟩ := valL_one (rs := [q]) qs
        subst e
        obtain ⟨u, eu, h⟩ := vwK_out h
        cases u <;> try exact h.elim
        rename_i s
        obtain ⟨w, ew, h⟩ := vwK_out h
        have hv := vw_ok R qo eu
        have hw := vw_ok R qy ew
        cases w <;> try exact h.elim
        rename_i t
        simp only [Vw, RepU] at hv hw
        match t, h, hw with
        | [c], h, hw =>
          refine ⟨strS s, strS [c], hv.1, by rw [hw.1]; rfl, rfl, by simpa [Str.length, strS] using h.1.2, fun p hp => ?_⟩
          rw [txt_part]
          obtain ⟨g1, g2, g3⟩ := part3_good hv.2 (hw.2.2 c (by simp))
          exact en.newTup R hz hx hp (us := [.str (part3 c s).1, .str (part3 c s).2.1, .str (part3 c s).2.2]) (by simp only [RepUs, RepU]; exact ⟨_, _, rfl, ⟨rfl, g1⟩, _, _, rfl, ⟨rfl, g2⟩, _, _, rfl, ⟨rfl, g3⟩, rfl⟩) h.2
  | rpart =>
    cases rs with
    | nil => exact h.elim
    | cons q rs =>
      cases rs with
      | cons _ _ => exact h.elim
      | nil =>
        obtain ⟨y, e, qy⟩ := valL_one (rs := [q]) qs
        subst e
        obtain ⟨u, eu, h⟩ := vwK_out h
        cases u <;> try exact h.elim
        rename_i s
        obtain ⟨w, ew, h⟩ := vwK_out h
        have hv := vw_ok R qo eu
        have hw := vw_ok R qy ew
        cases w <;> try exact h.elim
        rename_i t
        simp only [Vw, RepU] at hv hw
        match t, h, hw with
        | [c], h, hw =>
          refine ⟨s, c, hv.1, by rw [hw.1]; rfl, h.1.2, fun p hp => ?_⟩
          obtain ⟨g1, g2, g3⟩ := rpart3_good hv.2 (hw.2.2 c (by simp))
          exact en.newTup R hz hx hp (us := [.str (rpart3 c s).1, .str (rpart3 c s).2.1, .str (rpart3 c s).2.2]) (by simp only [RepUs, RepU]; exact ⟨_, _, rfl, ⟨rfl, g1⟩, _, _, rfl, ⟨rfl, g2⟩, _, _, rfl, ⟨rfl, g3⟩, rfl⟩) h.2
  | scount =>
    cases rs with
    | nil => exact h.elim
    | cons q rs =>
      cases rs with
      | cons _ _ => exact h.elim
      | nil =>
        obtain ⟨y, e, qy⟩ := valL_one (rs := [q]) qs
        subst e
        obtain ⟨u, eu, h⟩ := vwK_out h
        cases u <;> try exact h.elim
        rename_i s
        obtain ⟨w, ew, h⟩ := vwK_out h
        have hv := vw_ok R qo eu
        have hw := vw_ok R qy ew
        cases w <;> try exact h.elim
        rename_i t
        simp only [Vw, RepU] at hv hw
        match t, h, hw with
        | [c], h, hw =>
          refine ⟨strS s, strS [c], hv.1, by rw [hw.1]; rfl, ?_⟩
          rw [txt_count]
          exact en.ofU R hz hx (u := .int _) (by simp only [RepU]) h
  | islow =>
    cases rs with
    | cons _ _ => exact h.elim
    | nil =>
      have e : vs = [] := qs
      subst e
      obtain ⟨u, eu, h⟩ := vwK_out h
      cases u <;> try exact h.elim
      rename_i s
      have hv := vw_ok R qo eu
      simp only [Vw, RepU] at hv
      match s, h, hv with
      | [c], h, hv =>
        refine ⟨strS [c], hv.1, rfl, trivial, ?_⟩
        rw [low_one c h.1]
        exact en.ofU R hz hx (u := .bl _) (by simp only [RepU]) h.2
  | isdig =>
    cases rs with
    | cons _ _ => exact h.elim
    | nil =>
      have e : vs = [] := qs
      subst e
      obtain ⟨u, eu, h⟩ := vwK_out h
      cases u <;> try exact h.elim
      rename_i s
      have hv := vw_ok R qo eu
      simp only [Vw, RepU] at hv
      match s, h, hv with
      | [c], h, hv =>
        refine ⟨strS [c], hv.1, rfl, trivial, ?_⟩
        rw [dig_one c h.1]
        exact en.ofU R hz hx (u := .bl _) (by simp only [RepU]) h.2
  | lcount =>
    cases rs with
    | nil => exact h.elim
    | cons q rs =>
      cases rs with
      | cons _ _ => exact h.elim
      | nil =>
        obtain ⟨y, e, qy⟩ := valL_one (rs := [q]) qs
        subst e
        obtain ⟨u, eu, h⟩ := vwK_out h
        cases u <;> try exact h.elim
        obtain ⟨w, ew, h⟩ := vwK_out h
        obtain ⟨⟨h1, h2⟩, h⟩ := h
        exact ⟨_, _, _, w, y, rfl, vw_ok R qo eu, vw_ok R qy ew, h1, h2, en.ofU R hz hx (u := .int _) (by simp only [RepU]) h⟩
  | dclear => cases nd
  | get => cases nd
  | dpop => cases nd
  | tget => cases nd
  | tpop => cases nd
noncomputable def Mt.id : Mt → String
  | .popi => "list.pop" | .lindex => "list.index" | .append => "list.append" | .extend => "list.extend" | .pop => "list.pop" | .sindex => "str.index" | .join => "str.join" | .startswith => "str.startswith" | .split => "str.split" | .get => "dict.get" | .dpop => "dict.pop" | .part => "str.partition" | .rpart => "str.rpartition" | .scount => "str.count" | .islow => "str.islower" | .isdig => "str.isdigit" | .lcount => "list.count" | .dclear => "dict.clear" | .tget => "dict.get" | .tpop => "dict.pop"
theorem mts_of {id : String} {r : V → List V → Hp → VK → Prop} (h : MtR X id r) : MtS X id fun _ => r := fun pins s σ H x xs v us Q I r1 r2 q => h pins s σ H x xs v us Q I r1 r2 q
theorem mt_rule0 (hu : X.A.units + 64 < cLine) (hc : X.calm = true) : ∀ m : Mt, MtS X m.id (rMt m X.K)
  | .append => mts_of mt_append
  | .extend => mts_of mt_extendR
  | .pop => mts_of mt_pop
  | .popi => mts_of mt_popAt
  | .sindex => mt_indexX hc takesF
  | .lindex => mts_of mt_index
  | .join => mts_of mt_join
  | .startswith => mts_of mt_startswith
  | .split => mts_of mt_split
  | .part => mts_of mt_partition
  | .rpart => mts_of mt_rpart
  | .scount => mts_of mt_count
  | .islow => mts_of mt_islower
  | .isdig => mts_of mt_isdigit
  | .lcount => mts_of (mt_lcountD hu)
  | .dclear => fun _ _ _ _ _ _ _ _ _ _ _ _ h => h.elim
  | .get => fun _ _ _ _ _ _ _ _ _ _ _ _ h => h.elim
  | .dpop => fun _ _ _ _ _ _ _ _ _ _ _ _ h => h.elim
  | .tget => fun _ _ _ _ _ _ _ _ _ _ _ _ h => h.elim
  | .tpop => fun _ _ _ _ _ _ _ _ _ _ _ _ h => h.elim
theorem mt_rule {m : Mt} (hu : X.A.units + 64 < cLine) (h : X.calm = true ∨ m = .append) : MtS X m.id (rMt m X.K) := by
  rcases h with h | h
  · exact mt_rule0 hu h m
  · subst h
    exact mts_of mt_append
theorem mt_facts : ∀ m : Mt, PlainAttrs m.T ∧ Slot m.T (Str.ofString m.name) m.id ∧ typeOf (.builtin m.id) = pure (.type "method_descriptor")
  | .append => ⟨PySem.F.plainAttrs_list, PySem.F.slot_list_append, PySem.F.type_list_append⟩
  | .extend => ⟨PySem.F.plainAttrs_list, PySem.F.slot_list_extend, PySem.F.type_list_extend⟩
  | .pop => ⟨PySem.F.plainAttrs_list, PySem.F.slot_list_pop, PySem.F.type_list_pop⟩
  | .popi => ⟨PySem.F.plainAttrs_list, PySem.F.slot_list_pop, PySem.F.type_list_pop⟩
  | .sindex => ⟨PySem.F.plainAttrs_str, PySem.F.slot_str_index, PySem.F.type_str_index⟩
  | .lindex => ⟨PySem.F.plainAttrs_list, PySem.F.slot_list_index, PySem.F.type_list_index⟩
  | .join => ⟨PySem.F.plainAttrs_str, PySem.F.slot_str_join, PySem.F.type_str_join⟩
  | .startswith => ⟨PySem.F.plainAttrs_str, PySem.F.slot_str_startswith, PySem.F.type_str_startswith⟩
  | .split => ⟨PySem.F.plainAttrs_str, PySem.F.slot_str_split, PySem.F.type_str_split⟩
  | .get => ⟨PySem.F.plainAttrs_dict, PySem.F.slot_dict_get, PySem.F.type_dict_get⟩
  | .dpop => ⟨PySem.F.plainAttrs_dict, PySem.F.slot_dict_pop, PySem.F.type_dict_pop⟩
  | .tpop => ⟨PySem.F.plainAttrs_dict, PySem.F.slot_dict_pop, PySem.F.type_dict_pop⟩
  | .tget => ⟨PySem.F.plainAttrs_dict, PySem.F.slot_dict_get, PySem.F.type_dict_get⟩
  | .part => ⟨PySem.F.plainAttrs_str, PySem.F.slot_str_partition, PySem.F.type_str_partition⟩
  | .rpart => ⟨PySem.F.plainAttrs_str, PySem.F.slot_str_rpartition, PySem.F.type_str_rpartition⟩
  | .scount => ⟨PySem.F.plainAttrs_str, PySem.F.slot_str_count, PySem.F.type_str_count⟩
  | .islow => ⟨PySem.F.plainAttrs_str, PySem.F.slot_str_islower, PySem.F.type_str_islower⟩
  | .isdig => ⟨PySem.F.plainAttrs_str, PySem.F.slot_str_isdigit, PySem.F.type_str_isdigit⟩
  | .lcount => ⟨PySem.F.plainAttrs_list, PySem.F.slot_list_count, PySem.F.type_list_count⟩
  | .dclear => ⟨PySem.F.plainAttrs_dict, PySem.F.slot_dict_clear, PySem.F.type_dict_clear⟩
noncomputable def rZero : Mt → V → List V → Hp → VK → Prop
  | .pop => rPop
  | .islow => fun x xs H Q => ∃ a, x = .str a ∧ xs = [] ∧ True ∧ Q (.bl (Txt.islower a)) H
  | .isdig => fun x xs H Q => ∃ a, x = .str a ∧ xs = [] ∧ True ∧ Q (.bl (Txt.isdigit a)) H
  | _ => fun _ _ _ _ => False
theorem mt_zero : ∀ m : Mt, MtR X m.id (rZero m)
  | .pop => mt_pop
  | .append => fun _ _ _ _ _ _ _ _ _ _ _ _ h => h.elim
  | .extend => fun _ _ _ _ _ _ _ _ _ _ _ _ h => h.elim
  | .sindex => fun _ _ _ _ _ _ _ _ _ _ _ _ h => h.elim
  | .lindex => fun _ _ _ _ _ _ _ _ _ _ _ _ h => h.elim
  | .popi => fun _ _ _ _ _ _ _ _ _ _ _ _ h => h.elim
  | .join => fun _ _ _ _ _ _ _ _ _ _ _ _ h => h.elim
  | .startswith => fun _ _ _ _ _ _ _ _ _ _ _ _ h => h.elim
  | .split => fun _ _ _ _ _ _ _ _ _ _ _ _ h => h.elim
  | .get => fun _ _ _ _ _ _ _ _ _ _ _ _ h => h.elim
  | .dpop => fun _ _ _ _ _ _ _ _ _ _ _ _ h => h.elim
  | .tget => fun _ _ _ _ _ _ _ _ _ _ _ _ h => h.elim
  | .tpop => fun _ _ _ _ _ _ _ _ _ _ _ _ h => h.elim
  | .islow => mt_islower
  | .isdig => mt_isdigit
  | .part => fun _ _ _ _ _ _ _ _ _ _ _ _ h => h.elim
  | .rpart => fun _ _ _ _ _ _ _ _ _ _ _ _ h => h.elim
  | .scount => fun _ _ _ _ _ _ _ _ _ _ _ _ h => h.elim
  | .lcount => fun _ _ _ _ _ _ _ _ _ _ _ _ h => h.elim
  | .dclear => fun _ _ _ _ _ _ _ _ _ _ _ _ h => h.elim
theorem zero_of {m : Mt} {vs : List V} (e : vs = []) (h : rMt m X.K σ x vs H Q) : rZero m x vs H Q := by
  subst e
  cases m with
  | pop => exact h
  | append => obtain ⟨_, _, _, _, h, _⟩ := h; cases h
  | extend => obtain ⟨_, _, _, _, _, h, _⟩ := h; cases h
  | sindex => obtain ⟨_, _, _, h, _⟩ := h; cases h
  | lindex => obtain ⟨_, _, _, _, _, _, h, _⟩ := h; cases h
  | popi => obtain ⟨_, _, _, _, _, _, h, _⟩ := h; cases h
  | join => obtain ⟨_, _, _, _, h, _⟩ := h; cases h
  | startswith => obtain ⟨_, _, _, h, _⟩ := h; cases h
  | split => obtain ⟨_, _, _, h, _⟩ := h; cases h
  | part => obtain ⟨_, _, _, h, _⟩ := h; cases h
  | rpart => obtain ⟨_, _, _, h, _⟩ := h; cases h
  | scount => obtain ⟨_, _, _, h, _⟩ := h; cases h
  | lcount => obtain ⟨_, _, _, _, _, h, _⟩ := h; cases h
  | islow => exact h
  | isdig => exact h
  | dclear => exact h
  | get => exact h
  | dpop => exact h
  | tget => exact h
  | tpop => exact h
theorem c_bmeth (C : Ctx c n X K) {m : Mt} (hh : K.hot = false ∨ m = .append) (nd : m.isD = false) {o : E} {oe : Expr} {es : Es} {el : List Expr} {ap cp : Pos} (hns : notSup oe = true) (hln : (ap.endLine == cp.line) = true) (hfew : el.length < 9) (hck : ckEs K es el = true) (go : PE X oe (tE c Γ X o)) (ga : PA X el (tA c Γ X es)) :
    PE X (.Call (.Attribute oe (Str.ofString m.name) ap) el [] cp) (tE c Γ X (.bmeth m o es)) := by
  obtain ⟨f1, f2, f3⟩ := mt_facts m
  have main : ∀ {σ : L2.St} {H : Hp} {Q : VK} (S : V → List V → Hp → Prop), (∀ x vs H2, rMt m X.K σ x vs H2 Q → S x vs H2) → tE c Γ X (.bmeth m o es) σ H Q → tE c Γ X o σ H fun x H1 => tyV X.K m.T x H1 ∧ tA c Γ X es σ H1 fun vs H2 => S x vs H2 := fun {σ H Q} S hS ⟨L, Z, ρ, G, Xm, Qm, R, hL, w, tk, en⟩ => by
    simp only [wpE] at w
    refine ⟨L, Z, ρ, G, Xm, _, R, hL, w, tk, fun ro ρ1 G1 x H1 hx R1 w1 => ?_⟩
    obtain ⟨u, eu, w1⟩ := vwK_out w1
    obtain ⟨hr, w1⟩ := br_out w1
    refine ⟨recv_ty nd (vw_ok R1.rep R1.val eu) hr, L, Or2 Z (Hd ro x), ρ1, G1, Xm, _, R1.rep, fun a z => .inl (hL a z), w1, tk.go hx fun a => .inl, fun rs ρ2 G2 vs H2 hx2 R2 q2 apt nw w2 => hS _ _ _ ?_⟩
    exact mt_of nd R2 (hx.trans hx2) en (R1.val.step (fun a z => .inr z) (fun a z => (R1.rep.zd a z).1) hx2 fun p z => (nw p z).1) q2 apt (fun p z => (nw p z).2) hL R1.new w2
  have hb : attributeBase oe (Str.ofString m.name) X.env (eval oe X.env) = eval oe X.env := attrBase hns
  cases el with
  | nil =>
    cases es with
    | cons _ _ => cases hck
    | nil =>
      refine PE.imp (pe_bm0 f1 f2 f3 (mt_zero m) go hb hln) fun σ H Q h => ?_
      have h2 := main (fun x vs H2 => vs = [] → rZero m x vs H2 Q) (fun x vs H2 q e => zero_of e q) h
      obtain ⟨L, Z, ρ, G, Xm, Qm, R, hL, w, tk, en⟩ := h2
      refine ⟨L, Z, ρ, G, Xm, Qm, R, hL, w, tk, fun ro ρ1 G1 x H1 hx R1 w1 => ?_⟩
      obtain ⟨h3, L2, Z2, ρ2, G2, Xm2, Qm2, R2, hL2, w2, tk2, en2⟩ := en ro ρ1 G1 x H1 hx R1 w1
      refine ⟨h3, ?_⟩
      simp only [wpEs] at w2
      have e : Hds [] ([] : List V) = fun _ => False := rfl
      exact en2 [] ρ2 G2 [] H1 (Ext.refl _ _) (by rw [e, or2_false]; exact R2) rfl trivial (fun p z => z.elim) w2 rfl
  | cons e el =>
    cases es with
    | nil => cases hck
    | cons mm ms =>
      have hck' := hck
      simp only [ckEs, Bool.and_eq_true] at hck
      obtain ⟨n1, n2⟩ := cks_nostar (env := X.env) (pos := cp) hck'
      obtain ⟨n3, n4⟩ := cks_nostar (env := X.env) (pos := cp) hck.2
      refine PE.imp (pe_bmS f1 f2 f3 (mt_rule C.unt (hh.imp C.calm id)) go ga hb ?_ hln (star_cons (ck_plain hck.1)) n3) fun σ H Q h => main (fun x vs H2 => rMt m X.K σ x vs H2 Q) (fun _ _ _ q => q) h
      rw [n2]
      show (true && true && decide _) = true
      simp only [Bool.and_self, Bool.true_and, decide_eq_true_eq, List.length_nil, List.isEmpty_nil, if_true]
      omega
theorem m1_of (C : Ctx c n X K) {oe e1 : Expr} {ap cp : Pos} {nm : Str} (hns : notSup oe = true) (hln : (ap.endLine == cp.line) = true) (hp : plainX e1 = true) : M1 X oe nm ap e1 cp where
  base := attrBase hns
  few := by
    rw [star_cons (es := []) hp]
    rfl
  line := hln
  trees := by
    rw [star_cons (es := []) hp]
    rfl
theorem m2_of (C : Ctx c n X K) {oe e1 e2 : Expr} {ap cp : Pos} {nm : Str} (hns : notSup oe = true) (hln : (ap.endLine == cp.line) = true) (hp : plainX e1 = true) (hp2 : plainX e2 = true) : M2 X oe nm ap e1 e2 cp where
  base := attrBase hns
  few := by
    rw [star_cons (es := [e2]) hp, star_cons (es := []) hp2]
    rfl
  line := hln
  trees := by
    rw [star_cons (es := [e2]) hp, star_cons (es := []) hp2]
    rfl
theorem recM_dic {m : Mt} (hm : m = .get ∨ m = .dpop) {u : U} (h : recM m u = true) : ∃ ks ws, u = .dic ks ws := by
  rcases hm with rfl | rfl <;> cases u <;> first | exact ⟨_, _, rfl⟩ | (cases h; done)
/-- the receiver of a dict's method, then the rest -/
theorem dict_recv {m : Mt} (hm : m = .get ∨ m = .dpop) {S : Addr → Hp → Prop} {T : Mp.R → Rho → Hh → Prop} {Xm : Xc} (R : Rep c.ca X.K L Z σ H ρ G) (hL : ∀ a, L a → Z a) (tk : Tk c X L Z H (fp σ ρ G) Xm)
    (w : wpE c.P Γ a ρ G Xm fun ro ρ1 G1 => vwK ro ρ1 G1 fun x => Br (recM m x) (T ro ρ1 G1) False)
    (h : ∀ ro ρ1 G1 p H1, Ext H (fp σ ρ G) H1 (fp σ ρ1 G1) → RepR c.ca X.K L Z σ H (fp σ ρ G) H1 ρ1 G1 ro (.ref p) → T ro ρ1 G1 → S p H1) :
    tE c Γ X a σ H fun x H1 => ∃ p, x = .ref p ∧ IsD H1 p ∧ S p H1 := by
  refine ⟨L, Z, ρ, G, Xm, _, R, hL, w, tk, fun ro ρ1 G1 x H1 hx R1 w1 => ?_⟩
  obtain ⟨u, eu, w1⟩ := vwK_out w1
  obtain ⟨hr, w2⟩ := br_out w1
  obtain ⟨ks, ws, e⟩ := recM_dic hm hr
  subst e
  obtain ⟨p, kvs, e, r0, _⟩ := vw_ok R1.rep R1.val eu
  subst e
  exact ⟨p, rfl, .inl ⟨kvs, r0⟩, h ro ρ1 G1 p H1 hx R1 w2⟩
theorem e_dget1 (C : Ctx c n X K) {oe : Expr} {o : E} {ap cp : Pos} (hns : notSup oe = true) (hln : (ap.endLine == cp.line) = true) (hp : plainX e1 = true) (go : PE X oe (tE c Γ X o)) (ga : PE X e1 (tE c Γ X a)) :
    PE X (.Call (.Attribute oe (Str.ofString "get") ap) [e1] [] cp) (tE c Γ X (.bmeth .get o (.cons a .nil))) := by
  refine PE.imp (pe_dget1 (by have := C.unt; omega) go ga (m1_of C hns hln hp)) fun σ H Q ⟨L, Z, ρ, G, Xm, Qm, R, hL, w, tk, en⟩ => ?_
  simp only [wpE, wpEs] at w
  refine dict_recv (m := .get) (.inl rfl) R hL tk w fun ro ρ1 G1 p H1 hx R1 w1 => ?_
  refine ⟨L, Or2 Z (Hd ro (.ref p)), ρ1, G1, Xm, _, R1.rep, fun a z => .inl (hL a z), w1, tk.go hx fun a => .inl, fun rq ρ2 G2 y H2 hx2 R2 w2 => ?_⟩
  have qo := R1.val.step (fun a z => .inr z) (fun a z => (R1.rep.zd a z).1) hx2 fun p z => (R2.new p z).1
  obtain ⟨uo, eo, w2⟩ := vwK_out w2
  cases uo <;> try exact w2.elim
  obtain ⟨uq, eq, hk, w2⟩ := vwK_out w2
  obtain ⟨a0, kvs, k, x1, r, x2, q2, x3, x4, g⟩ := vw_dic (vw_ok R2.rep qo eo) hk (key_vw hk (vw_ok R2.rep R2.val eq))
  cases x1
  subst x2 x3
  refine ⟨valV kvs k, g, ?_⟩
  obtain ⟨l1, l2⟩ := lookD_val k kvs q2
  have hz : ∀ a, Z a → Or2 (Or2 Z (Hd ro (.ref p))) (Hd rq y) a := fun a z => .inl (.inl z)
  cases el : lookD (kvs.map fun p => kKey p.1) _ (kKey k) with
  | none =>
    rw [el] at w2
    rw [l2 el]
    exact en.ofU R2.rep hz (hx.trans hx2) (u := .non) (by simp only [RepU]; rfl) w2
  | some z =>
    rw [el] at w2
    obtain ⟨v, h1, h2⟩ := l1 z el
    rw [h1]
    exact en.ofU R2.rep hz (hx.trans hx2) h2 w2
theorem e_dget2 (C : Ctx c n X K) {oe : Expr} {o : E} {ap cp : Pos} (hns : notSup oe = true) (hln : (ap.endLine == cp.line) = true) (hp : plainX e1 = true) (hp2 : plainX e2 = true) (go : PE X oe (tE c Γ X o)) (ga : PE X e1 (tE c Γ X a)) (gb : PE X e2 (tE c Γ X b)) :
    PE X (.Call (.Attribute oe (Str.ofString "get") ap) [e1, e2] [] cp) (tE c Γ X (.bmeth .get o (.cons a (.cons b .nil)))) := by
  refine PE.imp (pe_dget2 (by have := C.unt; omega) go ga gb (m2_of C hns hln hp hp2)) fun σ H Q ⟨L, Z, ρ, G, Xm, Qm, R, hL, w, tk, en⟩ => ?_
  simp only [wpE, wpEs] at w
  refine dict_recv (m := .get) (.inl rfl) R hL tk w fun ro ρ1 G1 p H1 hx R1 w1 => ?_
  refine ⟨L, Or2 Z (Hd ro (.ref p)), ρ1, G1, Xm, _, R1.rep, fun a z => .inl (hL a z), w1, tk.go hx fun a => .inl, fun rq ρ2 G2 y H2 hx2 R2 w2 => ?_⟩
  refine ⟨L, Or2 (Or2 Z (Hd ro (.ref p))) (Hd rq y), ρ2, G2, Xm, _, R2.rep, fun a z => .inl (.inl (hL a z)), w2, tk.go (hx.trans hx2) fun a z => .inl (.inl z), fun rd ρ3 G3 zz H3 hx3 R3 w3 => ?_⟩
  have qo := (R1.val.step (fun a z => .inr z) (fun a z => (R1.rep.zd a z).1) hx2 fun p z => (R2.new p z).1).step (fun a z => .inl (.inr z)) (fun a z => (R2.rep.zd a z).1) hx3 fun p z => (R3.new p z).1
  have qq := R2.val.step (fun a z => .inr z) (fun a z => (R2.rep.zd a z).1) hx3 fun p z => (R3.new p z).1
  obtain ⟨uo, eo, w3⟩ := vwK_out w3
  cases uo <;> try exact w3.elim
  obtain ⟨uq, eq, hk, w3⟩ := vwK_out w3
  obtain ⟨a0, kvs, k, x1, r, x2, q2, x3, x4, g⟩ := vw_dic (vw_ok R3.rep qo eo) hk (key_vw hk (vw_ok R3.rep qq eq))
  cases x1
  subst x2 x3
  refine ⟨valV kvs k, g, ?_⟩
  obtain ⟨l1, l2⟩ := lookD_val k kvs q2
  have hxx := (hx.trans hx2).trans hx3
  cases el : lookD (kvs.map fun p => kKey p.1) _ (kKey k) with
  | none =>
    rw [el] at w3
    rw [l2 el]
    have sub : ∀ a, Or2 Z (Hd rd zz) a → Or2 (Or2 (Or2 Z (Hd ro (.ref p))) (Hd rq y)) (Hd rd zz) a := fun a z => z.elim (fun z => .inl (.inl (.inl z))) .inr
    refine en rd ρ3 G3 zz H3 hxx ⟨R3.rep.less sub, ?_, fun q z => ?_⟩ w3
    · have := R3.val
      cases rd with
      | u x => exact RepU.ext (Ext.sub fun a z => z.elim .inl fun z => .inr (sub a z)) x this
      | tmp x =>
        obtain ⟨q, o, h1, h2, h3⟩ := this
        exact ⟨q, o, h1, h2, h3.ext (Ext.sub fun a z => z.elim .inl fun z => .inr (sub a z))⟩
      | lv i => exact this
      | exc k => exact this
    · obtain ⟨n1, n2⟩ := R3.new q z
      exact ⟨newback (hx.trans hx2) n1, fun z => n2 (.inl (.inl z))⟩
  | some z =>
    rw [el] at w3
    obtain ⟨v, h1, h2⟩ := l1 z el
    rw [h1]
    exact en.ofU R3.rep (fun a z => .inl (.inl (.inl z))) hxx h2 w3
theorem e_dpop1 (C : Ctx c n X K) {oe : Expr} {o : E} {ap cp : Pos} (hns : notSup oe = true) (hln : (ap.endLine == cp.line) = true) (hp : plainX e1 = true) (go : PE X oe (tE c Γ X o)) (ga : PE X e1 (tE c Γ X a)) :
    PE X (.Call (.Attribute oe (Str.ofString "pop") ap) [e1] [] cp) (tE c Γ X (.bmeth .dpop o (.cons a .nil))) := by
  refine PE.imp (pe_dpop1 go ga (m1_of C hns hln hp)) fun σ H Q ⟨L, Z, ρ, G, Xm, Qm, R, hL, w, tk, en⟩ => ?_
  simp only [wpE, wpEs] at w
  refine dict_recv (m := .dpop) (.inr rfl) R hL tk w fun ro ρ1 G1 p H1 hx R1 w1 => ?_
  refine ⟨L, Or2 Z (Hd ro (.ref p)), ρ1, G1, Xm, _, R1.rep, fun a z => .inl (hL a z), w1, tk.go hx fun a => .inl, fun rq ρ2 G2 y H2 hx2 R2 w2 => ?_⟩
  have qo := R1.val.step (fun a z => .inr z) (fun a z => (R1.rep.zd a z).1) hx2 fun p z => (R2.new p z).1
  obtain ⟨uo, eo, w2⟩ := vwK_out w2
  cases uo <;> try exact w2.elim
  obtain ⟨uq, eq, hk, w2⟩ := vwK_out w2
  obtain ⟨v0, el, w2⟩ := optK_out w2
  obtain ⟨k, x3, x4⟩ := key_out hk (key_vw hk (vw_ok R2.rep R2.val eq))
  subst x3 x4
  obtain ⟨a0, kvs, x1, hH, x2, q2, go2⟩ := put_dic R2.rep qo eo w2
  cases x1
  subst x2
  obtain ⟨l1, _⟩ := lookD_val k kvs q2
  obtain ⟨v, h1, h2⟩ := l1 v0 el
  obtain ⟨d1, d2⟩ := delD_rep k kvs q2
  obtain ⟨ρ4, G4, k4, R4, hf, pf⟩ := go2 (.dK (dropK kvs k)) ⟨_, rfl, d1, d2⟩
  refine ⟨kvs, k, v, hH, rfl, h1, ?_⟩
  refine en.ofU R4 (fun a z => .inl (.inl z)) ((hx.trans hx2).upd' pf hf) ?_ k4
  exact RepU.ext (fun a o e m => ⟨by rw [upd_ne (fun z : a = p => m (.inl (by rw [z]; exact pf)))]; exact e, fun z => m (z.elim (fun z => .inl ((hf a).mp z)) .inr)⟩) v0 h2
theorem e_dpop2 (C : Ctx c n X K) {oe : Expr} {o : E} {ap cp : Pos} (hns : notSup oe = true) (hln : (ap.endLine == cp.line) = true) (hp : plainX e1 = true) (hp2 : plainX e2 = true) (go : PE X oe (tE c Γ X o)) (ga : PE X e1 (tE c Γ X a)) (gb : PE X e2 (tE c Γ X b)) :
    PE X (.Call (.Attribute oe (Str.ofString "pop") ap) [e1, e2] [] cp) (tE c Γ X (.bmeth .dpop o (.cons a (.cons b .nil)))) := by
  refine PE.imp (pe_dpop2 go ga gb (m2_of C hns hln hp hp2)) fun σ H Q ⟨L, Z, ρ, G, Xm, Qm, R, hL, w, tk, en⟩ => ?_
  simp only [wpE, wpEs] at w
  refine dict_recv (m := .dpop) (.inr rfl) R hL tk w fun ro ρ1 G1 p H1 hx R1 w1 => ?_
  refine ⟨L, Or2 Z (Hd ro (.ref p)), ρ1, G1, Xm, _, R1.rep, fun a z => .inl (hL a z), w1, tk.go hx fun a => .inl, fun rq ρ2 G2 y H2 hx2 R2 w2 => ?_⟩
  refine ⟨L, Or2 (Or2 Z (Hd ro (.ref p))) (Hd rq y), ρ2, G2, Xm, _, R2.rep, fun a z => .inl (.inl (hL a z)), w2, tk.go (hx.trans hx2) fun a z => .inl (.inl z), fun rd ρ3 G3 zz H3 hx3 R3 w3 => ?_⟩
  have qo := (R1.val.step (fun a z => .inr z) (fun a z => (R1.rep.zd a z).1) hx2 fun p z => (R2.new p z).1).step (fun a z => .inl (.inr z)) (fun a z => (R2.rep.zd a z).1) hx3 fun p z => (R3.new p z).1
  have qq := R2.val.step (fun a z => .inr z) (fun a z => (R2.rep.zd a z).1) hx3 fun p z => (R3.new p z).1
  obtain ⟨uo, eo, w3⟩ := vwK_out w3
  cases uo <;> try exact w3.elim
  rename_i ks0 ws0
  obtain ⟨uq, eq, hk, w3⟩ := vwK_out w3
  obtain ⟨k, x3, x4⟩ := key_out hk (key_vw hk (vw_ok R3.rep qq eq))
  subst x3 x4
  have hxx := (hx.trans hx2).trans hx3
  cases el : lookD ks0 ws0 (kKey k) with
  | none =>
    rw [el] at w3
    obtain ⟨a0, kvs, x1, hH, x2, q2, go2⟩ := put_dic (K0 := fun ρ2 G2 => Qm rd ρ2 G2) R3.rep qo eo w3
    cases x1
    subst x2
    refine ⟨kvs, k, hH, rfl, fun v hv => ?_, fun _ => ?_⟩
    · rw [(lookD_val k kvs q2).2 el] at hv; cases hv
    · obtain ⟨ρ4, G4, k4, R4, hf, pf⟩ := go2 (.dK kvs) ⟨_, rfl, rfl, q2⟩
      have eH : upd H3 p (.dK kvs) = H3 := by
        funext b
        by_cases e : b = p
        · rw [e, upd_same, hH]
        · rw [upd_ne e]
      rw [eH] at R4
      have sub : ∀ a, Or2 Z (Hd rd zz) a → Or2 (Or2 (Or2 Z (Hd ro (.ref p))) (Hd rq (kV k))) (Hd rd zz) a := fun a z => z.elim (fun z => .inl (.inl (.inl z))) .inr
      have hs : Ext H3 (Or2 (fp σ ρ3 G3) (Or2 (Or2 (Or2 Z (Hd ro (.ref p))) (Hd rq (kV k))) (Hd rd zz))) H3 (Or2 (fp σ ρ4 G4) (Or2 Z (Hd rd zz))) := Ext.sub fun a z => z.elim (fun z => .inl ((hf a).mp z)) fun z => .inr (sub a z)
      refine en rd ρ4 G4 zz H3 (fun a o e m => ⟨(hxx a o e m).1, fun z => (hxx a o e m).2 ((hf a).mp z)⟩) ⟨R4.less sub, ?_, fun q z => ?_⟩ k4
      · have := R3.val
        cases rd with
        | u x => exact RepU.ext hs x this
        | tmp x =>
          obtain ⟨q, o, h1, h2, h3⟩ := this
          exact ⟨q, o, h1, h2, h3.ext hs⟩
        | lv i => exact this
        | exc k => exact this
      · obtain ⟨n1, n2⟩ := R3.new q z
        exact ⟨newback (hx.trans hx2) n1, fun z => n2 (.inl (.inl z))⟩
  | some v0 =>
    rw [el] at w3
    obtain ⟨a0, kvs, x1, hH, x2, q2, go2⟩ := put_dic R3.rep qo eo w3
    cases x1
    subst x2
    obtain ⟨v, h1, h2⟩ := (lookD_val k kvs q2).1 v0 el
    obtain ⟨d1, d2⟩ := delD_rep k kvs q2
    obtain ⟨ρ4, G4, k4, R4, hf, pf⟩ := go2 (.dK (dropK kvs k)) ⟨_, rfl, d1, d2⟩
    refine ⟨kvs, k, hH, rfl, fun v' hv => ?_, fun hn => by rw [h1] at hn; cases hn⟩
    rw [h1] at hv
    cases hv
    refine en.ofU R4 (fun a z => .inl (.inl (.inl z))) (hxx.upd' pf hf) ?_ k4
    exact RepU.ext (fun a o e m => ⟨by rw [upd_ne (fun z : a = p => m (.inl (by rw [z]; exact pf)))]; exact e, fun z => m (z.elim (fun z => .inl ((hf a).mp z)) .inr)⟩) v0 h2
section
variable {w : World} {oe e1 e2 : Expr} {ap cp : Pos} {td ty tx : TE}
/-- x is a dict with tuples as keys -/
noncomputable def IsT (w : World) (K : PySem.W.Frag) (H : Hp) (x : V) : Prop := ∃ ex ks ws, Vw w K H ex (.dit ks ws) x
noncomputable def TGet (w : World) (K : PySem.W.Frag) (H : Hp) (x y : V) (Q : V → Prop) (N : Prop) : Prop := ∃ ex ks ws u, Vw w K H ex (.dit ks ws) x ∧ keyT u = true ∧ RepU K H ex u y ∧ (∀ z v, lookD ks ws u = some z → RepU K H ex z v → Q v) ∧ (lookD ks ws u = none → N)
noncomputable def tTGet1 (w : World) (K : PySem.W.Frag) (td ty : TE) : TE := fun σ H Q => td σ H fun x H1 => IsT w K H1 x ∧ ty σ H1 fun y H2 => TGet w K H2 x y (fun v => Q v H2) (Q .non H2)
noncomputable def tTGet2 (w : World) (K : PySem.W.Frag) (td ty tx : TE) : TE := fun σ H Q => td σ H fun x H1 => IsT w K H1 x ∧ ty σ H1 fun y H2 => tx σ H2 fun z H3 => TGet w K H3 x y (fun v => Q v H3) (Q z H3)
noncomputable def tTPop1 (w : World) (K : PySem.W.Frag) (td ty : TE) : TE := fun σ H Q => td σ H fun x H1 => IsT w K H1 x ∧ ty σ H1 fun y H2 => ∃ a xs ex u b ks ws vs z, x = .ref a ∧ y = .ref b ∧ H2 a = some (.ext (DitR w a xs)) ∧ (a == sysModules) = false ∧ xs.length ≤ sizeLine ∧ (xs.map (·.1)).Nodup ∧ KeyR K H2 ex ks xs ∧ Vals vs (xs.map (·.2.2)) ∧ RepUs K H2 ex ws vs ∧ keyT u = true ∧ RepU K H2 ex u (.ref b) ∧ lookD ks ws u = some z ∧
  ∀ v, RepU K H2 ex z v → ((withoutH xs (kN u)).map (·.1)).Nodup → Q v (upd H2 a (.ext (DitR w a (withoutH xs (kN u)))))
theorem isT_at {X : Cx} {pins : List (Addr × Obj)} {σ : L2.St} {H : Hp} {s : Shared} (I : Inv X pins σ H s) {x : V} {u : Value} (r : RelV x u) (h : IsT X.w X.K H x) : s.TypeIs u "dict" ∧ ∀ b, u = .ref b → ∃ ob, s.heap.get? b = some ob ∧ ob.dict = none := by
  obtain ⟨ex, ks, ws, d⟩ := h
  obtain ⟨a, zs, rfl, hd, hz, dd, kr⟩ := ditK_of I d
  obtain rfl : u = Value.ref a := r
  refine ⟨dd.typeIs, fun b q => ?_⟩
  cases q
  obtain ⟨o, es, ep, h1, h2, _⟩ := dd
  exact ⟨o, h1, h2.2.1⟩
theorem tget_at {X : Cx} {pins : List (Addr × Obj)} {σ : L2.St} {H : Hp} {s : Shared} (I : Inv X pins σ H s) {x y : V} {u : Value} (r : RelV x u) {Q : V → Prop} {N : Prop} (h : TGet X.w X.K H x y Q N) :
    ∃ a b k xs, u = .ref a ∧ y = .ref b ∧ (a == sysModules) = false ∧ (nestedKind X.prog X.w).is s.heap k b ∧ s.heap.DictOfH (nestedKind X.prog X.w) a xs ∧ ((∃ c x0 v0, atKey xs k = some (c, x0) ∧ RelV v0 x0 ∧ Q v0) ∨ atKey xs k = none ∧ N) := by
  obtain ⟨ex, ks, ws, uk, ⟨a, o, rfl, hr, xs, vs, rfl, n, z1, nd, kr, hv, r3⟩, hk, rz, q1, q2⟩ := h
  obtain ⟨b, rfl⟩ := key_ref hk rz
  refine ⟨a, b, kN uk, xs, r, rfl, n, key_is I hk rz, dit_of I hr nd kr, ?_⟩
  obtain ⟨l1, l2⟩ := lookT_at hk kr hv r3
  cases el : lookD ks ws uk with
  | none => exact .inr ⟨l2 el, q2 el⟩
  | some z =>
    obtain ⟨c, x0, v0, e1, e2, e3⟩ := l1 z el
    exact .inl ⟨c, x0, v0, e1, e2, q1 z v0 el e3⟩
theorem pe_tget1 {X : Cx} (hu : X.A.units + 64 < cLine) (ho : PE X oe td) (he : PE X e1 ty) (m : M1 X oe "get" ap e1 cp) : PE X (.Call (.Attribute oe "get" ap) [e1] [] cp) (tTGet1 X.w X.K td ty) := by
  refine ⟨fun pins s σ H Q I h => ?_⟩
  refine wpAny_Call_method m.base m.few m.line PySem.F.plainAttrs_dict PySem.F.slot_dict_get PySem.F.type_dict_get (thn (ho.run pins s σ H _ I h) fun u s1 ⟨x, H1, I1, rx, d, q1⟩ => ?_)
  obtain ⟨t1, t2⟩ := isT_at I1 rx d
  refine ⟨t1, t2, ?_⟩
  rw [m.trees]
  refine Calls.callWith_builtin rfl (Calls.evalArgs_plain (Calls.spliced_cons (thn (he.run pins s1 σ H1 _ I1 q1) fun iv s2 ⟨y, H2, I2, ry, q2⟩ => Calls.spliced_nil ?_)))
  obtain ⟨a, b, k, xs, rfl, rfl, n, hk, hd, hq⟩ := tget_at I2 rx q2
  cases ry
  refine call_meetsIn PySem.F.slot_dict_get hd.typeIs PySem.F.entry_dict_get (PySem.F.args_dict_get_2 _ _) (meetsH_dict_get (nestedKind X.prog X.w) a b n) ⟨room8 hu, k, xs, hk, hd, ?_⟩
  rcases hq with ⟨c, x0, v0, e1, e2, e3⟩ | ⟨e1, e3⟩
  · rw [e1]
    exact ⟨v0, H2, I2.tok _, e2, e3⟩
  · rw [e1]
    exact ⟨.non, H2, I2.tok _, rfl, e3⟩
theorem pe_tget2 {X : Cx} (hu : X.A.units + 64 < cLine) (ho : PE X oe td) (he : PE X e1 ty) (hf : PE X e2 tx) (m : M2 X oe "get" ap e1 e2 cp) : PE X (.Call (.Attribute oe "get" ap) [e1, e2] [] cp) (tTGet2 X.w X.K td ty tx) := by
  refine ⟨fun pins s σ H Q I h => ?_⟩
  refine wpAny_Call_method m.base m.few m.line PySem.F.plainAttrs_dict PySem.F.slot_dict_get PySem.F.type_dict_get (thn (ho.run pins s σ H _ I h) fun u s1 ⟨x, H1, I1, rx, d, q1⟩ => ?_)
  obtain ⟨t1, t2⟩ := isT_at I1 rx d
  refine ⟨t1, t2, ?_⟩
  rw [m.trees]
  refine Calls.callWith_builtin rfl (Calls.evalArgs_plain (Calls.spliced_cons (thn (he.run pins s1 σ H1 _ I1 q1) fun iv s2 ⟨y, H2, I2, ry, q2⟩ =>
    Calls.spliced_cons (thn (hf.run pins s2 σ H2 _ I2 q2) fun fv s3 ⟨z, H3, I3, rz, q3⟩ => Calls.spliced_nil ?_))))
  obtain ⟨a, b, k, xs, rfl, rfl, n, hk, hd, hq⟩ := tget_at I3 rx q3
  cases ry
  refine call_meetsIn PySem.F.slot_dict_get hd.typeIs PySem.F.entry_dict_get (PySem.F.args_dict_get_3 _ _ _) (meetsH_dict_get_default (nestedKind X.prog X.w) a b n fv) ⟨room8 hu, k, xs, hk, hd, ?_⟩
  rcases hq with ⟨c, x0, v0, e1, e2, e3⟩ | ⟨e1, e3⟩
  · rw [e1]
    exact ⟨v0, H3, I3.tok _, e2, e3⟩
  · rw [e1]
    exact ⟨z, H3, I3.tok _, rz, e3⟩
theorem pe_tpop1 {X : Cx} (hu : X.A.units + 64 < cLine) (ho : PE X oe td) (he : PE X e1 ty) (m : M1 X oe "pop" ap e1 cp) : PE X (.Call (.Attribute oe "pop" ap) [e1] [] cp) (tTPop1 X.w X.K td ty) := by
  refine ⟨fun pins s σ H Q I h => ?_⟩
  refine wpAny_Call_method m.base m.few m.line PySem.F.plainAttrs_dict PySem.F.slot_dict_pop PySem.F.type_dict_pop (thn (ho.run pins s σ H _ I h) fun u s1 ⟨x, H1, I1, rx, d, q1⟩ => ?_)
  obtain ⟨t1, t2⟩ := isT_at I1 rx d
  refine ⟨t1, t2, ?_⟩
  rw [m.trees]
  refine Calls.callWith_builtin rfl (Calls.evalArgs_plain (Calls.spliced_cons (thn (he.run pins s1 σ H1 _ I1 q1) fun iv s2 ⟨y, H2, I2, ry, q2⟩ => Calls.spliced_nil ?_)))
  obtain ⟨a, xs, ex, uk, b, ks, ws, vs, z, rfl, rfl, ha, n, hz, nd, kr, hv, r, hk, ru, hl, q⟩ := q2
  obtain rfl : u = Value.ref a := rx
  cases ry
  obtain ⟨c0, x0, v0, e1, e2, e3⟩ := (lookT_at hk kr hv r).1 z hl
  refine call_pop_heap (knd := nestedKind X.prog X.w) (.inl rfl) (PySem.F.args_dict_pop_2 _ _) (room8 hu) (key_is I2 hk ru) n (dit_of I2 (.inl ha) nd kr) e1 (fun h' hm' hs => ?_) hz
  exact ⟨v0, _, d_write (t' := s2.toks + _) I2 (by rw [ha]; trivial) hs (ditH_at hm') (ditO_new hm'), e2, q v0 e3 (ditH_nd hm')⟩
end
/-- the receiver is a dict with tuples as keys, then the rest -/
theorem dit_recv {m : Mt} (hm : m = .tget ∨ m = .tpop) (ew : c.ca.w = X.w) {S : V → Hp → Prop} {T : Mp.R → Rho → Hh → Prop} {Xm : Xc} (R : Rep c.ca X.K L Z σ H ρ G) (hL : ∀ a, L a → Z a) (tk : Tk c X L Z H (fp σ ρ G) Xm)
    (w : wpE c.P Γ a ρ G Xm fun ro ρ1 G1 => vwK ro ρ1 G1 fun x => Br (recM m x) (T ro ρ1 G1) False)
    (h : ∀ ro ρ1 G1 x H1, Ext H (fp σ ρ G) H1 (fp σ ρ1 G1) → RepR c.ca X.K L Z σ H (fp σ ρ G) H1 ρ1 G1 ro x → T ro ρ1 G1 → S x H1) :
    tE c Γ X a σ H fun x H1 => IsT X.w X.K H1 x ∧ S x H1 := by
  refine ⟨L, Z, ρ, G, Xm, _, R, hL, w, tk, fun ro ρ1 G1 x H1 hx R1 w1 => ?_⟩
  obtain ⟨u, eu, w1⟩ := vwK_out w1
  obtain ⟨hr, w2⟩ := br_out w1
  have hv := vw_ok R1.rep R1.val eu
  obtain ⟨ks, ws, e⟩ : ∃ ks ws, u = .dit ks ws := by
    rcases hm with rfl | rfl <;> cases u <;> first | exact ⟨_, _, rfl⟩ | (cases hr; done)
  subst e
  exact ⟨⟨_, ks, ws, by rw [← ew]; exact hv⟩, h ro ρ1 G1 x H1 hx R1 w2⟩
theorem e_tget1 (C : Ctx c n X K) {oe : Expr} {o : E} {ap cp : Pos} (hns : notSup oe = true) (hln : (ap.endLine == cp.line) = true) (hp : plainX e1 = true) (go : PE X oe (tE c Γ X o)) (ga : PE X e1 (tE c Γ X a)) :
    PE X (.Call (.Attribute oe (Str.ofString "get") ap) [e1] [] cp) (tE c Γ X (.bmeth .tget o (.cons a .nil))) := by
  refine PE.imp (pe_tget1 C.unt go ga (m1_of C hns hln hp)) fun σ H Q ⟨L, Z, ρ, G, Xm, Qm, R, hL, w, tk, en⟩ => ?_
  simp only [wpE, wpEs] at w
  refine dit_recv (m := .tget) (.inl rfl) C.ww R hL tk w fun ro ρ1 G1 x H1 hx R1 w1 => ?_
  refine ⟨L, Or2 Z (Hd ro x), ρ1, G1, Xm, _, R1.rep, fun a z => .inl (hL a z), w1, tk.go hx fun a => .inl, fun rq ρ2 G2 y H2 hx2 R2 w2 => ?_⟩
  have qo := R1.val.step (fun a z => .inr z) (fun a z => (R1.rep.zd a z).1) hx2 fun p z => (R2.new p z).1
  obtain ⟨uo, eo, w2⟩ := vwK_out w2
  cases uo <;> try exact w2.elim
  rename_i ks ws
  obtain ⟨uq, eq, hk, w2⟩ := vwK_out w2
  have hv := vw_ok R2.rep qo eo
  have hq := keyT_vw hk (vw_ok R2.rep R2.val eq)
  have hz : ∀ a, Z a → Or2 (Or2 Z (Hd ro x)) (Hd rq y) a := fun a z => .inl (.inl z)
  refine ⟨_, ks, ws, uq, by rw [← C.ww]; exact hv, hk, hq, fun z v el rz => ?_, fun el => ?_⟩
  · rw [el] at w2
    exact en.ofU R2.rep hz (hx.trans hx2) rz w2
  · rw [el] at w2
    exact en.ofU R2.rep hz (hx.trans hx2) (u := .non) (by simp only [RepU]) w2
theorem e_tget2 (C : Ctx c n X K) {oe : Expr} {o : E} {ap cp : Pos} (hns : notSup oe = true) (hln : (ap.endLine == cp.line) = true) (hp : plainX e1 = true) (hp2 : plainX e2 = true) (go : PE X oe (tE c Γ X o)) (ga : PE X e1 (tE c Γ X a)) (gb : PE X e2 (tE c Γ X b)) :
    PE X (.Call (.Attribute oe (Str.ofString "get") ap) [e1, e2] [] cp) (tE c Γ X (.bmeth .tget o (.cons a (.cons b .nil)))) := by
  refine PE.imp (pe_tget2 C.unt go ga gb (m2_of C hns hln hp hp2)) fun σ H Q ⟨L, Z, ρ, G, Xm, Qm, R, hL, w, tk, en⟩ => ?_
  simp only [wpE, wpEs] at w
  refine dit_recv (m := .tget) (.inl rfl) C.ww R hL tk w fun ro ρ1 G1 x H1 hx R1 w1 => ?_
  refine ⟨L, Or2 Z (Hd ro x), ρ1, G1, Xm, _, R1.rep, fun a z => .inl (hL a z), w1, tk.go hx fun a => .inl, fun rq ρ2 G2 y H2 hx2 R2 w2 => ?_⟩
  refine ⟨L, Or2 (Or2 Z (Hd ro x)) (Hd rq y), ρ2, G2, Xm, _, R2.rep, fun a z => .inl (.inl (hL a z)), w2, tk.go (hx.trans hx2) fun a z => .inl (.inl z), fun rd ρ3 G3 zz H3 hx3 R3 w3 => ?_⟩
  have qo := (R1.val.step (fun a z => .inr z) (fun a z => (R1.rep.zd a z).1) hx2 fun p z => (R2.new p z).1).step (fun a z => .inl (.inr z)) (fun a z => (R2.rep.zd a z).1) hx3 fun p z => (R3.new p z).1
  have qq := R2.val.step (fun a z => .inr z) (fun a z => (R2.rep.zd a z).1) hx3 fun p z => (R3.new p z).1
  obtain ⟨uo, eo, w3⟩ := vwK_out w3
  cases uo <;> try exact w3.elim
  rename_i ks ws
  obtain ⟨uq, eq, hk, w3⟩ := vwK_out w3
  have hv := vw_ok R3.rep qo eo
  have hq := keyT_vw hk (vw_ok R3.rep qq eq)
  have hxx := (hx.trans hx2).trans hx3
  refine ⟨_, ks, ws, uq, by rw [← C.ww]; exact hv, hk, hq, fun z v el rz => ?_, fun el => ?_⟩
  · rw [el] at w3
    exact en.ofU R3.rep (fun a z => .inl (.inl (.inl z))) hxx rz w3
  · rw [el] at w3
    have sub : ∀ a, Or2 Z (Hd rd zz) a → Or2 (Or2 (Or2 Z (Hd ro x)) (Hd rq y)) (Hd rd zz) a := fun a z => z.elim (fun z => .inl (.inl (.inl z))) .inr
    refine en rd ρ3 G3 zz H3 hxx ⟨R3.rep.less sub, ?_, fun q z => ?_⟩ w3
    · have := R3.val
      cases rd with
      | u x => exact RepU.ext (Ext.sub fun a z => z.elim .inl fun z => .inr (sub a z)) x this
      | tmp x =>
        obtain ⟨q, o, h1, h2, h3⟩ := this
        exact ⟨q, o, h1, h2, h3.ext (Ext.sub fun a z => z.elim .inl fun z => .inr (sub a z))⟩
      | lv i => exact this
      | exc k => exact this
    · obtain ⟨n1, n2⟩ := R3.new q z
      exact ⟨newback (hx.trans hx2) n1, fun z => n2 (.inl (.inl z))⟩
theorem e_tpop1 (C : Ctx c n X K) {oe : Expr} {o : E} {ap cp : Pos} (hns : notSup oe = true) (hln : (ap.endLine == cp.line) = true) (hp : plainX e1 = true) (go : PE X oe (tE c Γ X o)) (ga : PE X e1 (tE c Γ X a)) :
    PE X (.Call (.Attribute oe (Str.ofString "pop") ap) [e1] [] cp) (tE c Γ X (.bmeth .tpop o (.cons a .nil))) := by
  refine PE.imp (pe_tpop1 C.unt go ga (m1_of C hns hln hp)) fun σ H Q ⟨L, Z, ρ, G, Xm, Qm, R, hL, w, tk, en⟩ => ?_
  simp only [wpE, wpEs] at w
  refine dit_recv (m := .tpop) (.inr rfl) C.ww R hL tk w fun ro ρ1 G1 x H1 hx R1 w1 => ?_
  refine ⟨L, Or2 Z (Hd ro x), ρ1, G1, Xm, _, R1.rep, fun a z => .inl (hL a z), w1, tk.go hx fun a => .inl, fun rq ρ2 G2 y H2 hx2 R2 w2 => ?_⟩
  have qo := R1.val.step (fun a z => .inr z) (fun a z => (R1.rep.zd a z).1) hx2 fun p z => (R2.new p z).1
  obtain ⟨uo, eo, w2⟩ := vwK_out w2
  cases uo <;> try exact w2.elim
  obtain ⟨uq, eq, hk, w2⟩ := vwK_out w2
  obtain ⟨v0, el, w2⟩ := optK_out w2
  have hq := keyT_vw hk (vw_ok R2.rep R2.val eq)
  obtain ⟨b, eb⟩ := key_ref hk hq
  subst eb
  obtain ⟨p, xs, vs, x1, hH, n, hl, nd, kr, hv, q2, go2⟩ := put_dit R2.rep qo eo w2
  subst x1
  refine ⟨p, xs, _, uq, b, _, _, vs, v0, rfl, rfl, by rw [← C.ww]; exact hH, n, hl, nd, kr, hv, q2, hk, hq, el, fun v h2 nd2 => ?_⟩
  obtain ⟨d1, vs2, d2, d3⟩ := delT_rep hk kr hv q2
  obtain ⟨ρ4, G4, k4, R4, hf, pf⟩ := go2 (.ext (DitR c.ca.w p (withoutH xs (kN uq)))) ⟨_, vs2, rfl, n, Nat.le_trans (withoutH_len xs _) hl, nd2, d1, d2, d3⟩
  rw [← C.ww]
  refine en.ofU R4 (fun a z => .inl (.inl z)) ((hx.trans hx2).upd' pf hf) ?_ k4
  exact RepU.ext (fun a o e m => ⟨by rw [upd_ne (fun z : a = p => m (.inl (by rw [z]; exact pf)))]; exact e, fun z => m (z.elim (fun z => .inl ((hf a).mp z)) .inr)⟩) v0 h2
theorem e_dclear (C : Ctx c n X K) {oe : Expr} {o : E} {ap cp : Pos} (hns : notSup oe = true) (hln : (ap.endLine == cp.line) = true) (go : PE X oe (tE c Γ X o)) :
    PE X (.Call (.Attribute oe (Str.ofString "clear") ap) [] [] cp) (tE c Γ X (.bmeth .dclear o .nil)) := by
  refine PE.imp (pe_dclear go (attrBase hns) hln) fun σ H Q ⟨L, Z, ρ, G, Xm, Qm, R, hL, w, tk, en⟩ => ?_
  simp only [wpE, wpEs] at w
  refine ⟨L, Z, ρ, G, Xm, _, R, hL, w, tk, fun ro ρ1 G1 x H1 hx R1 w1 => ?_⟩
  obtain ⟨u, eu, w1⟩ := vwK_out w1
  obtain ⟨hr, w2⟩ := br_out w1
  obtain ⟨u2, eu2, w2⟩ := vwK_out w2
  cases u2 <;> try exact w2.elim
  obtain ⟨p, kvs, x1, hH, x2, q2, go2⟩ := put_dic R1.rep R1.val eu2 w2
  subst x1
  obtain ⟨ρ4, G4, k4, R4, hf, pf⟩ := go2 (.dK []) ⟨[], rfl, rfl, by simp only [List.map_nil, RepUs]⟩
  refine ⟨?_, p, kvs, rfl, rfl, hH, ?_⟩
  · exact .inr (.inr (.inl ⟨rfl, .inl ⟨kvs, hH⟩⟩))
  · exact en.ofU R4 (fun a z => .inl z) (hx.upd' pf hf) (u := .non) (by simp only [RepU]) k4
end
end Mp
namespace RE
open PySem PySem.Spec PyProof.Rows L2
set_option maxHeartbeats 1000000 in
theorem meets_new1 {v : Value} {o : Obj} {H : Heap → Prop} (B : Begins v o H) :
    Meets (Builtin.«enumerate.__new__» ⟨[.type "enumerate", v], []⟩) (fun _ R s => H s.heap ∧
      R (.ok (.ret (.ref (s.heap.push o).objs.size))) { s with heap := (s.heap.push o).push { cls := .type "enumerate", data := .fields #[.none, .bool false, .ref s.heap.objs.size, rawInt 0, .none, .none] } }) :=
  .of_wp fun prog w A R s h => by
    obtain ⟨hp, g, d, tk, os⟩ := s; obtain ⟨h1, h⟩ := h
    have hsub := sub_enumerate
    have q1 : ∀ {A' : Around} {E : Value → Shared → Prop} {Q : Value → Shared → Prop}, Q (.ref hp.objs.size) ⟨hp.push o, g, d, tk, os⟩ → wpAny (model prog w) A' (pyIter v) Q E ⟨hp, g, d, tk, os⟩ :=
      fun q => B.iter prog w _ _ ⟨hp, g, d, tk, os⟩ _ h1 q
    wp_walk using q1
    refine wpAny_stack_any fun st => wpAny_pure ?_
    split
    · rename_i c _ _ _ _ _
      cases (c == Value.type "enumerate")
      · wp_walk using q1
        exact ⟨_, rfl, h⟩
      · wp_walk using q1
        exact ⟨_, rfl, h⟩
    · wp_walk using q1
      exact ⟨_, rfl, h⟩
section
variable {prog : Program} {w : World} {A : Around} {E : Value → Shared → Prop} {s : Shared}
theorem call_tup {l : Addr} {items : Array Value} {Q : Value → Shared → Prop} (hL : s.heap.IsTuple l items)
    (h : ∀ h', IsEnum h' (s.heap.objs.size + 1) s.heap.objs.size 0 .none → h'.IsTupleIter s.heap.objs.size l 0 → h'.objs.size = s.heap.objs.size + 2 →
      (∀ b o, s.heap.get? b = some o → h'.get? b = some o) → Q (.ref (s.heap.objs.size + 1)) { s with heap := h' }) :
    wpAny (model prog w) A (call (.type "enumerate") [.ref l]) Q E s := by
  refine callType_new F.called_enumerate (by decide) (F.typeCall_enumerate_1 _) (F.newCall_enumerate_1 _) (fun obj => F.args_object_init_2 obj _) F.entry_enumerate_new
    (meets_new1 (begins_tuple l items)) ⟨hL, ?_⟩
  have hz : (s.heap.push { cls := .type "tuple_iterator", data := .fields #[.ref l, .int 0 0] }).objs.size = s.heap.objs.size + 1 := Heap.size_push ..
  show _ ∧ _
  rw [hz]
  have he : IsEnum ((s.heap.push { cls := .type "tuple_iterator", data := .fields #[.ref l, .int 0 0] }).push
      { cls := .type "enumerate", data := .fields #[.none, .bool false, .ref s.heap.objs.size, rawInt 0, .none, .none] }) (s.heap.objs.size + 1) s.heap.objs.size 0 .none := by
    have := Heap.get?_push_size (s.heap.push { cls := .type "tuple_iterator", data := .fields #[.ref l, .int 0 0] })
      (o := { cls := .type "enumerate", data := .fields #[.none, .bool false, .ref s.heap.objs.size, rawInt 0, .none, .none] }) rfl
    rw [hz] at this; exact this
  refine ⟨⟨_, he, rfl⟩, h _ he ⟨_, Heap.get?_push_of_some _ (Heap.get?_push_size _ rfl), rfl, rfl⟩ (by rw [Heap.size_push, hz]) fun b o x => Heap.get?_push_of_some _ (Heap.get?_push_of_some _ x)⟩
end
noncomputable def IteT (K : PySem.W.Frag) (a : Addr) : It :=
  ⟨fun i H => ∃ (xs : List V) (x : V), SqT K H a xs ∧ xs[i]? = some x, fun i H v H' => ∃ T x, v = .ref T ∧ H T = none ∧ H' = upd H T (.tup [.int (i : Nat), x]) ∧ ∀ xs, SqT K H a xs → xs[i]? = some x, fun i H => ∃ xs : List V, SqT K H a xs ∧ xs.length ≤ i⟩
theorem turn_enumT {P : Program} {w : World} {K : PySem.W.Frag} {elts : List Expr} {kk : Nat} {tpos : Pos} (a e it : Addr) :
    Turn P w K (.Tuple elts kk tpos) (IteT K a) [e, it] e (fun i h => (∃ old, IsEnum h e it ((i : Nat) : Int) old) ∧ h.IsTupleIter it a i ∧ e ≠ it) where
  mem := by simp
  obj := fun i h st b hb => by
    obtain ⟨⟨old, he⟩, ⟨o, ho, hc, hd⟩, _⟩ := st
    have e' : b = e ∨ b = it := by simpa using hb
    rcases e' with z | z
    · rw [z]; exact ⟨_, he, fun v q => nomatch q⟩
    · rw [z]; exact ⟨o, ho, fun v q => by rw [hd] at q; cases q⟩
  keep := fun i h h' st k => let ⟨⟨old, he⟩, hi, hne⟩ := st; ⟨⟨old, k e (by simp) _ he⟩, hi.at fun o q => k it (by simp) o q, hne⟩
  item := by
    intro X hP hw hK hc i pins s σ H E I hf st hg
    subst hP hw hK
    obtain ⟨⟨old, he⟩, hit, hne⟩ := st
    obtain ⟨xs, x, hq, hx⟩ := hg
    obtain ⟨its, rv, p, hz⟩ := I.tuple hq
    obtain ⟨u, hu, ru⟩ := rv.get hx
    have p' : s.heap.IsTuple a its.toArray := p
    have hel : e < s.heap.objs.size := Heap.lt_size he
    have hil : it < s.heap.objs.size := by obtain ⟨_, q, _⟩ := hit; exact Heap.lt_size q
    have hea : e ≠ a := fun z => by
      obtain ⟨o, ho, hc2, _⟩ := id p'
      have he2 : s.heap.get? e = some _ := he
      rw [z, ho] at he2
      cases he2
      exact absurd (Value.type.inj hc2) (by decide)
    have hai : a ≠ it := fun z => by
      obtain ⟨o, ho, hc2, _⟩ := id p'
      obtain ⟨o2, ho2, hc3, _⟩ := id hit
      rw [z, ho2] at ho
      cases ho
      rw [hc3] at hc2
      exact absurd (Value.type.inj hc2) (by decide)
    have hlt : i < its.toArray.size := by
      have := (List.getElem?_eq_some_iff.mp hu).1
      simpa using this
    refine wpAny_pyNext_enum_itemD (Draws.tuple (show X.A.in1.handled = none from I.ok.hd hc) it a hai its.toArray) he ⟨hit, p'⟩ hlt hne (by simp [hne, hea]) fun u' h' tk hu' ho st' hT hsz hk => ?_
    have eu : u' = u := by
      have hu' : its.toArray[i]? = some u' := hu'
      simp at hu'
      rw [hu] at hu'
      cases hu'
      rfl
    subst eu
    obtain ⟨hit', _⟩ := st'
    refine ⟨_, rfl, wpAny_letOwnedTupleGo_enum (s := { s with heap := h', toks := tk + 1 }) ho fun h'' he' sb => ?_⟩
    have hT2 : h''.get? s.heap.objs.size = some { cls := .type "tuple", data := .seq #[.int i tk, u'] } := (sb.2 _ (Nat.ne_of_gt hel)).trans hT
    have new : ObjOk X.prog X.w (upd H s.heap.objs.size (.tup [.int (i : Nat), x])) h'' s.heap.objs.size (.tup [.int (i : Nat), x]) :=
      ⟨by show 2 ≤ sizeLine; decide, [.int i tk, u'], .cons ⟨_, rfl⟩ (.cons ru .nil), ⟨_, hT2, rfl, _, rfl⟩⟩
    have I1 : Inv X pins σ (upd H s.heap.objs.size (.tup [.int (i : Nat), x])) { s with heap := h'', toks := tk + 1 } :=
      I.turnedNew (t' := tk + 1) (ch := [e, it]) (fun b ob hb q => (sb.2 b (fun z => hb (by simp [z]))).trans (hk b ob (fun z => hb (by simp [z])) (fun z => hb (by simp [z])) q)) hf (Nat.le_refl _) new
    refine ⟨.ref s.heap.objs.size, _, I1, rfl, ⟨_, x, rfl, I.hok.fresh (Nat.le_refl _), rfl, fun ys hy => by rw [I.tuple_inj hy hq]; exact hx⟩, ⟨⟨u', ?_⟩, hit'.at fun o q => (sb.2 it (Ne.symm hne)).trans q, hne⟩, fun b hb => ?_⟩
    · have e1 : ((i + 1 : Nat) : Int) = (i : Int) + 1 := by omega
      rw [e1]; exact he'
    · have hb' : b < s.heap.objs.size := by
        have e' : b = e ∨ b = it := by simpa using hb
        rcases e' with z | z
        · rw [z]; exact hel
        · rw [z]; exact hil
      rw [upd_ne (Nat.ne_of_lt hb')]
      exact (hf b hb).1
  done := by
    intro X hP hw hK hc i pins s σ H E I hf st hg
    subst hP hw hK
    obtain ⟨⟨old, he⟩, hit, hne⟩ := st
    obtain ⟨xs, hq, hx⟩ := hg
    obtain ⟨its, rv, p, hz⟩ := I.tuple hq
    have p' : s.heap.IsTuple a its.toArray := p
    obtain ⟨f0, f1, f2, f3, f4, f5⟩ := hf it (by simp)
    have hl := rv.length
    unfold pyNext
    have hTy : s.TypeIs (.ref e) "enumerate" := ⟨_, he, rfl⟩
    refine wpAny_bind (wpAny_attempt (wpAny_callSpecial?_slot (name := Str.ofString "__next__") hTy F.slot_enumerate_next
      (wpAny_call_entry F.slot_enumerate_next hTy F.entry_enumerate_next ?_ (F.args_enumerate_next_1 _))))
    show wpAny _ _ (field (.ref e) 2 >>= _) _ _ _
    refine wpAny_bind (wpAny_field he rfl (x := .ref it) rfl ?_)
    refine wpAny_bind (wpAny_nextOf_tuple_end (show X.A.in1.handled = none from I.ok.hd hc) hit p' (List.getElem?_toArray .. ▸ List.getElem?_eq_none (by omega)) fun h' x eb hx' => ?_)
    obtain ⟨o, ho, hcx⟩ := hx'
    refine wpAny_bind (wpAny_isInstance (T := "StopIteration") (b := true) ⟨o, ho, hcx⟩ isSubtype_stop ?_)
    exact wpAny_pure ⟨rfl, I.turned (t' := s.toks) (fun b o hb q => eb b o hb q) f0 f1 f3 f4 f5⟩
  self := fun A i s Q E st h => let ⟨⟨_, he⟩, _⟩ := st; wpAny_pyIter_enum he h
noncomputable def iEnumA (K : PySem.W.Frag) (ta : TA) : TI := fun σ H R => ta σ H fun vs H1 => ∃ a xs, vs = [.ref a] ∧ ((SqL K H1 a xs ∧ R (Ite K a) H1) ∨ (SqT K H1 a xs ∧ R (IteT K a) H1))
theorem pi_enumA {X : Cx} {e : Expr} {ta : TA} {p pos tpos : Pos} {elts : List Expr} {kk : Nat} (hg : Gl X "enumerate") (hm : X.mg "enumerate" = none) (ha : PA X [e] ta) (hs : starEach [e] X.env = [(false, eval e X.env)] := by rfl) :
    PI X (.Tuple elts kk tpos) (.Call (.Name "enumerate" p) [e] [] pos) (iEnumA X.K ta) := by
  refine ⟨fun pins s σ H R I h => ?_⟩
  refine Call_ (ld_blt I hg hm boot_enumerate (PyProof.Rows.callWith_type1 (thn (ha.run pos pins s σ H _ I h) fun us s1 ⟨vs, H1, I1, r1, q1⟩ => ?_) hs rfl))
  obtain ⟨a, xs, ex, q1⟩ := q1
  subst ex
  cases r1 with
  | cons r rr =>
    cases rr
    cases r
    have fresh2 : ∀ b, b ∈ [s1.heap.objs.size + 1, s1.heap.objs.size] → FpOk X pins H1 b := fun b hb => by
      have e' : b = s1.heap.objs.size + 1 ∨ b = s1.heap.objs.size := by simpa using hb
      have hle : s1.heap.objs.size ≤ b := by
        rcases e' with z | z
        · rw [z]; exact Nat.le_add_right _ _
        · rw [z]; exact Nat.le_refl _
      exact I1.fpOk hle (I1.hok.fresh hle)
    rcases q1 with ⟨hq, q⟩ | ⟨hq, q⟩
    · obtain ⟨its, rv, p', hz⟩ := I1.list hq
      refine call_enumerate_list p'.isList fun h' he hit hsz hk => wpAny_pyIter_enum he ?_
      have I2 : Inv X pins σ H1 { s1 with heap := h' } := I1.kept (t' := s1.toks) hk
      exact ⟨s1.heap.objs.size + 1, [s1.heap.objs.size + 1, s1.heap.objs.size], _, _, H1, rfl, I2, turn_enum a (s1.heap.objs.size + 1) s1.heap.objs.size, ⟨⟨.none, he⟩, hit, Nat.succ_ne_self _⟩, fresh2, q⟩
    · obtain ⟨its, rv, p', hz⟩ := I1.tuple hq
      refine call_tup (show s1.heap.IsTuple a its.toArray from p') fun h' he hit hsz hk => wpAny_pyIter_enum he ?_
      have I2 : Inv X pins σ H1 { s1 with heap := h' } := I1.kept (t' := s1.toks) hk
      exact ⟨s1.heap.objs.size + 1, [s1.heap.objs.size + 1, s1.heap.objs.size], _, _, H1, rfl, I2, turn_enumT a (s1.heap.objs.size + 1) s1.heap.objs.size, ⟨⟨.none, he⟩, hit, Nat.succ_ne_self _⟩, fresh2, q⟩
end RE
namespace Mp
open PySem PySem.Spec PyProof.Rows L2
/-- a walk of the items us, as long as S stands -/
structure Wk (Kf : PySem.W.Frag) (J : L2.It) (us : List U) (S : Hp → (Addr → Prop) → Prop) : Prop where
  goes : ∀ {i H ex}, i < us.length → S H ex → J.go i H
  stops : ∀ {H ex}, S H ex → J.stop us.length H
  yields : ∀ {i H ex x H' u}, us[i]? = some u → S H ex → (∀ a, ex a → ∃ o, H a = some o) → J.yld i H x H' → (∀ a o, H a = some o → H' a = some o) ∧ RepU Kf H' ex u x
theorem Wk.mono {Kf : PySem.W.Frag} {J : L2.It} {us : List U} {S S' : Hp → (Addr → Prop) → Prop} (w : Wk Kf J us S) (h : ∀ H ex, S' H ex → S H ex) : Wk Kf J us S' :=
  ⟨fun hi s => w.goes hi (h _ _ s), fun s => w.stops (h _ _ s), fun hu s => w.yields hu (h _ _ s)⟩
section
variable {Kf : PySem.W.Frag} {H H' : Hp} {ex : Addr → Prop} {a : Addr} {xs ys us : List U} {J : L2.It}
noncomputable def SL (Kf : PySem.W.Frag) (a : Addr) (xs : List U) : Hp → (Addr → Prop) → Prop := fun H ex => ∃ vs, SqL Kf H a vs ∧ RepUs Kf H ex xs vs
noncomputable def ST (Kf : PySem.W.Frag) (a : Addr) (xs : List U) : Hp → (Addr → Prop) → Prop := fun H ex => ∃ vs, TpAt Kf H ex a vs ∧ RepUs Kf H ex xs vs
theorem wk_list : Wk Kf (Itl Kf a) xs (SL Kf a xs) := by
  refine ⟨fun {i H ex} hi ⟨vs, t, q⟩ => ?_, fun {H ex} ⟨vs, t, q⟩ => ?_, fun {i H ex x H' u} hu ⟨vs, t, q⟩ _ y => ?_⟩
  · obtain ⟨v, e, _⟩ := q.get (List.getElem?_eq_getElem hi)
    exact ⟨vs, v, t, e⟩
  · exact ⟨vs, t, by rw [q.length]; exact Nat.le_refl _⟩
  · obtain ⟨v, e, r⟩ := q.get hu
    obtain ⟨e2, y⟩ := y
    subst e2
    rw [y vs t] at e
    cases e
    exact ⟨fun _ _ e => e, r⟩
theorem wk_tup : Wk Kf (Itt Kf a) xs (ST Kf a xs) := by
  refine ⟨fun {i H ex} hi ⟨vs, t, q⟩ => ?_, fun {H ex} ⟨vs, t, q⟩ => ?_, fun {i H ex x H' u} hu ⟨vs, t, q⟩ _ y => ?_⟩
  · obtain ⟨v, e, _⟩ := q.get (List.getElem?_eq_getElem hi)
    exact ⟨vs, v, sqT_of t, e⟩
  · exact ⟨vs, sqT_of t, by rw [q.length]; exact Nat.le_refl _⟩
  · obtain ⟨v, e, r⟩ := q.get hu
    obtain ⟨e2, y⟩ := y
    subst e2
    rw [y vs (sqT_of t)] at e
    cases e
    exact ⟨fun _ _ e => e, r⟩
theorem wk_str {s : List Nat} (g : GoodS s) : Wk Kf (Its ⟨s.toArray⟩) (s.map fun c => .str [c]) (fun _ _ => True) := by
  refine ⟨fun {i H ex} hi _ => ?_, fun {H ex} _ => ?_, fun {i H ex x H' u} hu _ _ y => ?_⟩
  · show i < s.toArray.size
    simpa using hi
  · show s.toArray.size ≤ _
    simp
  · obtain ⟨e2, c, ec, ex'⟩ := y
    subst e2
    subst ex'
    refine ⟨fun _ _ e => e, ?_⟩
    have ec : s[i]? = some c := by simpa using ec
    rw [List.getElem?_map, ec] at hu
    cases hu
    simp only [RepU]
    refine ⟨trivial, by simp [sizeLine], fun d hd => ?_⟩
    obtain ⟨h1, h2⟩ := List.getElem?_eq_some_iff.mp ec
    have : d = c := by simpa using hd
    rw [this, ← h2]
    exact g.2 _ (List.getElem_mem _)
theorem wk_rng {lo hi : Int} : Wk Kf (Itr lo (hi - lo).toNat) (rangeI lo hi) (fun _ _ => True) := by
  refine ⟨fun {i H ex} hi _ => ?_, fun {H ex} _ => ?_, fun {i H ex x H' u} hu _ _ y => ?_⟩
  · show i < _
    simpa [rangeI] using hi
  · show _ ≤ _
    simp [rangeI]
  · obtain ⟨e2, e3⟩ := y
    subst e2
    subst e3
    refine ⟨fun _ _ e => e, ?_⟩
    unfold rangeI at hu
    rw [List.getElem?_map] at hu
    cases e : (List.range (hi - lo).toNat)[i]? with
    | none => rw [e] at hu; cases hu
    | some k =>
      rw [e] at hu
      cases hu
      obtain ⟨h1, h2⟩ := List.getElem?_eq_some_iff.mp e
      have : k = i := by rw [← h2]; simp
      subst this
      simp only [RepU]
theorem enumI_get : ∀ {xs : List U} {k i : Nat} {u : U}, (enumI k xs)[i]? = some u → ∃ y, xs[i]? = some y ∧ u = .tup [.int ((k + i : Nat) : Int), y]
  | [], k, i, u, h => by simp [enumI] at h
  | x :: xs, k, 0, u, h => by
    simp [enumI] at h
    exact ⟨x, by simp, by rw [← h]; simp⟩
  | x :: xs, k, i + 1, u, h => by
    simp only [enumI, List.getElem?_cons_succ] at h
    obtain ⟨y, h1, h2⟩ := enumI_get h
    exact ⟨y, by simpa using h1, by rw [h2]; congr 3; omega⟩
theorem enumI_len : ∀ {xs : List U} {k : Nat}, (enumI k xs).length = xs.length
  | [], _ => rfl
  | x :: xs, k => by rw [enumI, List.length_cons, List.length_cons, enumI_len]
theorem rep_pair {T : Addr} {u w : U} {x y : V} (hT : H T = none) (hex : ∀ a, ex a → ∃ o, H a = some o) (q1 : RepU Kf H ex u x) (q2 : RepU Kf H ex w y) :
    (∀ a o, H a = some o → upd H T (.tup [x, y]) a = some o) ∧ RepU Kf (upd H T (.tup [x, y])) ex (.tup [u, w]) (.ref T) := by
  have hk : ∀ a o, H a = some o → upd H T (.tup [x, y]) a = some o := fun a o e => by
    rw [upd_ne (ne_of_none e hT)]; exact e
  have hx : Ext H ex (upd H T (.tup [x, y])) ex := fun a o e n => ⟨hk a o e, n⟩
  refine ⟨hk, ?_⟩
  simp only [RepU]
  refine ⟨T, [x, y], rfl, .inl ⟨.inl upd_same, fun z => ?_⟩, ?_⟩
  · obtain ⟨o, e⟩ := hex T z
    rw [hT] at e; cases e
  · simp only [RepUs]
    exact ⟨x, _, rfl, RepU.ext hx _ q1, y, _, rfl, RepU.ext hx _ q2, rfl⟩
theorem wk_enum : Wk Kf (Ite Kf a) (enumI 0 xs) (SL Kf a xs) := by
  refine ⟨fun {i H ex} hi ⟨vs, t, q⟩ => ?_, fun {H ex} ⟨vs, t, q⟩ => ?_, fun {i H ex x H' u} hu ⟨vs, t, q⟩ hex y => ?_⟩
  · rw [enumI_len] at hi
    obtain ⟨v, e, _⟩ := q.get (List.getElem?_eq_getElem hi)
    exact ⟨vs, v, t, e⟩
  · exact ⟨vs, t, by rw [enumI_len, q.length]; exact Nat.le_refl _⟩
  · obtain ⟨w, e1, e2⟩ := enumI_get hu
    obtain ⟨v, e, r⟩ := q.get e1
    obtain ⟨T, z, h1, h2, h3, h4⟩ := y
    rw [h4 vs t] at e
    cases e
    subst h1
    subst h3
    rw [e2, show ((0 + i : Nat) : Int) = (i : Nat) by simp]
    exact rep_pair h2 hex (by simp only [RepU]) r
theorem wk_enumT : Wk Kf (RE.IteT Kf a) (enumI 0 xs) (ST Kf a xs) := by
  refine ⟨fun {i H ex} hi ⟨vs, t, q⟩ => ?_, fun {H ex} ⟨vs, t, q⟩ => ?_, fun {i H ex x H' u} hu ⟨vs, t, q⟩ hex y => ?_⟩
  · rw [enumI_len] at hi
    obtain ⟨v, e, _⟩ := q.get (List.getElem?_eq_getElem hi)
    exact ⟨vs, v, sqT_of t, e⟩
  · exact ⟨vs, sqT_of t, by rw [enumI_len, q.length]; exact Nat.le_refl _⟩
  · obtain ⟨w, e1, e2⟩ := enumI_get hu
    obtain ⟨v, e, r⟩ := q.get e1
    obtain ⟨T, z, h1, h2, h3, h4⟩ := y
    rw [h4 vs (sqT_of t)] at e
    cases e
    subst h1
    subst h3
    rw [e2, show ((0 + i : Nat) : Int) = (i : Nat) by simp]
    exact rep_pair h2 hex (by simp only [RepU]) r
theorem zipI_get : ∀ {xs ys : List U} {i : Nat} {u : U}, (zipI xs ys)[i]? = some u → ∃ y z, xs[i]? = some y ∧ ys[i]? = some z ∧ u = .tup [y, z]
  | [], _, i, u, h => by simp [zipI] at h
  | _ :: _, [], i, u, h => by simp [zipI] at h
  | x :: xs, y :: ys, 0, u, h => by
    simp [zipI] at h
    exact ⟨x, y, by simp, by simp, h.symm⟩
  | x :: xs, y :: ys, i + 1, u, h => by
    simp only [zipI, List.getElem?_cons_succ] at h
    obtain ⟨y, z, h1, h2, h3⟩ := zipI_get h
    exact ⟨y, z, by simpa using h1, by simpa using h2, h3⟩
theorem zipI_len : ∀ {xs ys : List U}, (zipI xs ys).length = min xs.length ys.length
  | [], ys => by simp [zipI]
  | x :: xs, [] => by simp [zipI]
  | x :: xs, y :: ys => by
    rw [zipI, List.length_cons, List.length_cons, List.length_cons, zipI_len]
    omega
theorem wk_zip {b : Addr} : Wk Kf (Itz Kf a b) (zipI xs ys) (fun H ex => SL Kf a xs H ex ∧ SL Kf b ys H ex) := by
  refine ⟨fun {i H ex} hi ⟨⟨vs, t, q⟩, ws, t2, q2⟩ => ?_, fun {H ex} ⟨⟨vs, t, q⟩, ws, t2, q2⟩ => ?_, fun {i H ex x H' u} hu ⟨⟨vs, t, q⟩, ws, t2, q2⟩ hex y => ?_⟩
  · rw [zipI_len] at hi
    obtain ⟨v, e, _⟩ := q.get (List.getElem?_eq_getElem (show i < xs.length by omega))
    obtain ⟨w, e2, _⟩ := q2.get (List.getElem?_eq_getElem (show i < ys.length by omega))
    exact ⟨vs, ws, v, w, t, t2, e, e2⟩
  · refine ⟨vs, ws, t, t2, ?_⟩
    have h1 := q.length
    have h2 := q2.length
    rw [zipI_len]
    omega
  · obtain ⟨u1, u2, e1, e2, eu⟩ := zipI_get hu
    obtain ⟨v, e3, r⟩ := q.get e1
    obtain ⟨w, e4, r2⟩ := q2.get e2
    obtain ⟨T, z1, z2, h1, h2, h3, h4, h5⟩ := y
    rw [h4 vs t] at e3
    rw [h5 ws t2] at e4
    cases e3
    cases e4
    subst h1
    subst h3
    rw [eu]
    exact rep_pair h2 hex r r2
theorem wk_zipT {b : Addr} : Wk Kf (RZ.ItzT Kf a b) (zipI xs ys) (fun H ex => ST Kf a xs H ex ∧ ST Kf b ys H ex) := by
  refine ⟨fun {i H ex} hi ⟨⟨vs, t, q⟩, ws, t2, q2⟩ => ?_, fun {H ex} ⟨⟨vs, t, q⟩, ws, t2, q2⟩ => ?_, fun {i H ex x H' u} hu ⟨⟨vs, t, q⟩, ws, t2, q2⟩ hex y => ?_⟩
  · rw [zipI_len] at hi
    obtain ⟨v, e, _⟩ := q.get (List.getElem?_eq_getElem (show i < xs.length by omega))
    obtain ⟨w, e2, _⟩ := q2.get (List.getElem?_eq_getElem (show i < ys.length by omega))
    exact ⟨vs, ws, v, w, sqT_of t, sqT_of t2, e, e2⟩
  · refine ⟨vs, ws, sqT_of t, sqT_of t2, ?_⟩
    have h1 := q.length
    have h2 := q2.length
    rw [zipI_len]
    omega
  · obtain ⟨u1, u2, e1, e2, eu⟩ := zipI_get hu
    obtain ⟨v, e3, r⟩ := q.get e1
    obtain ⟨w, e4, r2⟩ := q2.get e2
    obtain ⟨T, z1, z2, h1, h2, h3, h4, h5⟩ := y
    rw [h4 vs (sqT_of t)] at e3
    rw [h5 ws (sqT_of t2)] at e4
    cases e3
    cases e4
    subst h1
    subst h3
    rw [eu]
    exact rep_pair h2 hex r r2
theorem get_rev {α : Type} {xs : List α} {i : Nat} {u : α} (h : xs.reverse[i]? = some u) : i < xs.length ∧ xs[xs.length - 1 - i]? = some u := by
  have hl : i < xs.length := by
    obtain ⟨h1, _⟩ := List.getElem?_eq_some_iff.mp h
    simpa using h1
  refine ⟨hl, ?_⟩
  rw [List.getElem?_reverse hl] at h
  exact h
theorem wk_rev {n : Nat} (hn : n = xs.length) : Wk Kf (Itv Kf a n) xs.reverse (SL Kf a xs) := by
  subst hn
  refine ⟨fun {i H ex} hi ⟨vs, t, q⟩ => ?_, fun {H ex} _ => ?_, fun {i H ex x H' u} hu ⟨vs, t, q⟩ _ y => ?_⟩
  · rw [List.length_reverse] at hi
    obtain ⟨v, e, _⟩ := q.get (List.getElem?_eq_getElem (show xs.length - 1 - i < xs.length by omega))
    exact ⟨hi, vs, v, t, e⟩
  · show xs.length ≤ _
    rw [List.length_reverse]
    exact Nat.le_refl _
  · obtain ⟨hl, hu⟩ := get_rev hu
    obtain ⟨v, e, r⟩ := q.get hu
    obtain ⟨e2, y⟩ := y
    subst e2
    rw [y vs t] at e
    cases e
    exact ⟨fun _ _ e => e, r⟩
theorem wk_revT {n : Nat} (hn : n = xs.length) : Wk Kf (RT.ItvT Kf a n) xs.reverse (ST Kf a xs) := by
  subst hn
  refine ⟨fun {i H ex} hi ⟨vs, t, q⟩ => ?_, fun {H ex} _ => ?_, fun {i H ex x H' u} hu ⟨vs, t, q⟩ _ y => ?_⟩
  · rw [List.length_reverse] at hi
    obtain ⟨v, e, _⟩ := q.get (List.getElem?_eq_getElem (show xs.length - 1 - i < xs.length by omega))
    exact ⟨hi, vs, v, sqT_of t, e⟩
  · show xs.length ≤ _
    rw [List.length_reverse]
    exact Nat.le_refl _
  · obtain ⟨hl, hu⟩ := get_rev hu
    obtain ⟨v, e, r⟩ := q.get hu
    obtain ⟨e2, y⟩ := y
    subst e2
    rw [y vs (sqT_of t)] at e
    cases e
    exact ⟨fun _ _ e => e, r⟩
end
noncomputable def SrcOk (Kf : PySem.W.Frag) (src : Src) (J : L2.It) (H : Hp) (f Z : Addr → Prop) (σ : L2.St) (ρ : Rho) (G : Hh) : Prop :=
  match src with
  | .fix us => ∃ S, Wk Kf J us S ∧ ∀ H2 f2, Ext H f H2 f2 → S H2 (Or2 f2 Z)
  | .slot i c us => ∃ t, ρ[i]? = some (some (.own c)) ∧ σ[i]? = some (some (.ref t)) ∧ (∀ ks ws, c ≠ .dit ks ws) ∧ Wk Kf J us (fun H ex => ∃ W, Vw W Kf H ex c (.ref t))
  | .heap a c us => G a = some (.con c) ∧ Wk Kf J us (fun H ex => ∃ W, Vw W Kf H ex c (.ref a))
section
variable {c : Cx0} {n : Nat} {X : Cx} {K : Ck} {L Z Z' : Addr → Prop} {σ : L2.St} {H H1 H2 : Hp} {ρ ρ1 ρ2 : Rho} {G G1 G2 : Hh} {f ex : Addr → Prop} {x y v : V} {u w : U} {Qm : Kc} {Q : VK} {a b d : E} {e1 e2 e3 tg : Expr} {pos p2 : Pos} {r : R} {ca : Cs} {Γ : Cal} {Kf : PySem.W.Frag} {xs ys us : List U} {J : L2.It}
theorem Ext.keepZ {f' : Addr → Prop} (h : Ext H f H1 f') : Ext H (Or2 f Z) H1 (Or2 f' Z) := by
  have := h.withZ (Z := Z) (N := fun _ => False) fun p z => z.elim
  rwa [or2_false] at this
theorem vw_lst {ww : World} {t : Addr} (h : Vw ww Kf H ex (.lst xs) (.ref t)) : SL Kf t xs H ex := by
  obtain ⟨a, vs, e, h, q⟩ := h
  cases e
  exact ⟨vs, h, q⟩
theorem src_list {Kc' : Src → Prop} (R : Rep ca Kf L Z σ H ρ G) (q : Val ca.w Kf H (Or2 (fp σ ρ G) Z) σ r v) (ha : ∀ p, Hd r v p → Z p) (ev : vw r ρ G = some (.lst xs)) (hJ : ∀ p, v = .ref p → Wk Kf J us (SL Kf p xs)) (h : srcR r ρ (.lst xs) us Kc') :
    ∃ src, Kc' src ∧ SrcOk Kf src J H (fp σ ρ G) Z σ ρ G := by
  have hv := vw_ok R q ev
  obtain ⟨p, vs, e, t, qs⟩ := hv
  have hW := hJ p e
  have st : ¬ fp σ ρ G p → ∀ H2 f2, Ext H (fp σ ρ G) H2 f2 → SL Kf p xs H2 (Or2 f2 Z) := fun n H2 f2 hx => ⟨vs, t.imp (fun t => (Rd.ext hx n t).1) id, RepUs.ext hx.keepZ _ qs⟩
  cases r with
  | exc k => cases ev
  | tmp y =>
    refine ⟨_, h, _, hW, st ?_⟩
    exact (R.zd p (ha p e)).1
  | lv i =>
    have q' : σ[i]? = some (some v) := q
    simp only [vw] at ev
    simp only [srcR] at h
    cases hs : ρ[i]? with
    | none => rw [hs] at ev; cases ev
    | some os =>
      rw [hs] at ev h
      cases os with
      | none => cases ev
      | some sv =>
        obtain ⟨w, e1, q1⟩ := R.slot i sv hs
        rw [q'] at e1
        cases e1
        cases sv with
        | u y => cases ev
        | exc k => cases ev
        | own y =>
          cases ev
          refine ⟨_, h, p, hs, by rw [← e]; exact q', (fun _ _ z => nomatch z), hW.mono fun H ex ⟨_, h⟩ => vw_lst h⟩
        | fz t2 y =>
          cases ev
          refine ⟨_, h, _, hW, st ?_⟩
          obtain ⟨e3, ⟨n1, _⟩, _⟩ := q1
          rw [e] at e3
          cases e3
          exact n1
  | u y =>
    cases y <;> simp only [vw] at ev <;> try (cases ev; done)
    · cases ev
      refine ⟨_, h, _, hW, fun H2 f2 hx => ?_⟩
      have q' := RepU.ext hx.keepZ _ (show RepU Kf H (Or2 (fp σ ρ G) Z) (.lst xs) v from q)
      simp only [RepU] at q'
      obtain ⟨p2, ws, e4, t4, q4⟩ := q'
      rw [e] at e4
      cases e4
      exact ⟨ws, sqL_of t4, q4⟩
    · rename_i a
      cases hg : G a with
      | none => rw [hg] at ev; cases ev
      | some o =>
        rw [hg] at ev
        cases o with
        | ins k fs => cases ev
        | con cc =>
          cases ev
          simp only [Val, RepU] at q
          rw [e] at q
          cases q
          exact ⟨_, h, hg, hW.mono fun H ex ⟨_, h⟩ => vw_lst h⟩
noncomputable def conU : U → Bool
  | .lst _ => true | .dic _ _ => true | .dit _ _ => true | _ => false
theorem repC_con {W : World} {a : Addr} {o : HO} (q : RepC Kf H ex W a u o) : conU u = true := by
  cases u <;> first | rfl | exact q.elim
/-- what is no list or dict is a value -/
theorem vw_u (R : Rep ca Kf L Z σ H ρ G) (q : Val ca.w Kf H (Or2 (fp σ ρ G) Z) σ r v) (ev : vw r ρ G = some u) (hu : conU u = false) : r = .u u := by
  cases r with
  | exc k => cases ev
  | tmp y =>
    cases ev
    obtain ⟨p, o, _, _, q⟩ := q
    rw [repC_con q] at hu; cases hu
  | lv i =>
    simp only [vw] at ev
    cases hs : ρ[i]? with
    | none => rw [hs] at ev; cases ev
    | some os =>
      rw [hs] at ev
      cases os with
      | none => cases ev
      | some sv =>
        obtain ⟨w, e1, q1⟩ := R.slot i sv hs
        cases sv with
        | u y => cases ev
        | exc k => cases ev
        | own y =>
          cases ev
          obtain ⟨p, o, _, _, q⟩ := q1
          rw [repC_con q] at hu; cases hu
        | fz t2 y =>
          cases ev
          obtain ⟨_, _, o, _, q⟩ := q1
          rw [repC_con q] at hu; cases hu
  | u y =>
    cases y <;> simp only [vw] at ev <;> try (first | (cases ev; done) | (cases ev; rfl))
    rename_i a
    cases hg : G a with
    | none => rw [hg] at ev; cases ev
    | some o =>
      rw [hg] at ev
      cases o with
      | ins k fs => cases ev
      | con cc =>
        cases ev
        obtain ⟨ho, _, q⟩ := R.heap a _ hg
        have hq := repC_con (show RepC Kf H (Or2 (fp σ ρ G) Z) _ _ _ ho from q)
        rw [hq] at hu; cases hu
theorem src_tup {Kc' : Src → Prop} (R : Rep ca Kf L Z σ H ρ G) (q : Val ca.w Kf H (Or2 (fp σ ρ G) Z) σ r v) (ev : vw r ρ G = some (.tup xs)) (hJ : ∀ p, v = .ref p → Wk Kf J us (ST Kf p xs)) (h : srcR r ρ (.tup xs) us Kc') :
    ∃ src, Kc' src ∧ SrcOk Kf src J H (fp σ ρ G) Z σ ρ G := by
  have := vw_u R q ev rfl
  subst this
  have q' : RepU Kf H (Or2 (fp σ ρ G) Z) (.tup xs) v := q
  obtain ⟨p, vs, e, t, qs⟩ := id (by simpa only [RepU] using q')
  refine ⟨_, h, _, hJ p e, fun H2 f2 hx => ?_⟩
  have := RepU.ext hx.keepZ _ q'
  simp only [RepU] at this
  obtain ⟨p2, ws, e2, t2, q2⟩ := this
  rw [e] at e2
  cases e2
  exact ⟨ws, t2, q2⟩
noncomputable def tI (c : Cx0) (Γ : Cal) (X : Cx) (it : It) : TI := fun σ H Rj => ∃ L Z ρ G Xm Qm, Rep c.ca X.K L Z σ H ρ G ∧ (∀ a, L a → Z a) ∧ wpIt c.P Γ it ρ G Xm Qm ∧ Tk c X L Z H (fp σ ρ G) Xm ∧
  ∀ src ρ' G' J H' Z', (∀ a, Z a → Z' a) → Ext H (fp σ ρ G) H' (fp σ ρ' G') → Rep c.ca X.K L Z' σ H' ρ' G' → SrcOk X.K src J H' (fp σ ρ' G') Z' σ ρ' G' → Qm src ρ' G' → Rj J H'
theorem PI.imp {X : Cx} {tg e : Expr} {t t' : TI} (h : PI X tg e t) (i : ∀ σ H Q, t' σ H Q → t σ H Q) : PI X tg e t' := ⟨fun pins s σ H Q I q => h.run pins s σ H Q I (i σ H Q q)⟩
/-- a list, a tuple or a text, by value -/
noncomputable def iSeq (K : PySem.W.Frag) (te : TE) : TI := fun σ H R => te σ H fun v H1 => (∃ a xs, v = .ref a ∧ SqL K H1 a xs ∧ R (Itl K a) H1) ∨ (∃ a xs, v = .ref a ∧ SqT K H1 a xs ∧ R (Itt K a) H1) ∨ ∃ x, v = .str x ∧ R (Its x) H1
theorem pi_seq {e : Expr} {te : TE} (he : PE X e te) : PI X tg e (iSeq X.K te) := by
  refine ⟨fun pins s σ H R I h => ?_⟩
  refine thn (he.run pins s σ H _ I h) fun v s1 ⟨x, H1, I1, r1, q1⟩ => ?_
  rcases q1 with ⟨a, xs, e, hq, q⟩ | ⟨a, xs, e, hq, q⟩ | ⟨x, ex, q⟩
  · subst e
    cases r1
    obtain ⟨its, rv, p, hz⟩ := I1.list hq
    refine wpAny_pyIter_list p.isList ?_
    refine ⟨s1.heap.objs.size, [s1.heap.objs.size], _, _, H1, rfl, I1.kept (t' := s1.toks) fun b o e => Heap.get?_push_of_some _ e, turn_list a _, ⟨_, Heap.get?_push_size _ rfl, rfl, rfl⟩, fun b hb => ?_, q⟩
    have e : b = s1.heap.objs.size := by simpa using hb
    subst e
    exact I1.fpOk (Nat.le_refl _) (I1.hok.fresh (Nat.le_refl _))
  · subst e
    cases r1
    obtain ⟨its, rv, p, hz⟩ := I1.tuple hq
    refine wpAny_pyIter_tuple (show s1.heap.IsTuple a its.toArray from p) ?_
    refine ⟨s1.heap.objs.size, [s1.heap.objs.size], _, _, H1, rfl, I1.kept (t' := s1.toks) fun b o e => Heap.get?_push_of_some _ e, turn_tuple a _, ⟨_, Heap.get?_push_size _ rfl, rfl, rfl⟩, fun b hb => ?_, q⟩
    have e : b = s1.heap.objs.size := by simpa using hb
    subst e
    exact I1.fpOk (Nat.le_refl _) (I1.hok.fresh (Nat.le_refl _))
  · subst ex
    obtain ⟨t, rfl⟩ := r1
    cases ha : x.cps.all (· < 128)
    · exact wpAny_pyIter_wide ha (pi_one (tk := s1.toks) I1 _ (turn_str _ x t "str_iterator" (.inr rfl)) ⟨_, Heap.get?_push_size _ rfl, rfl, rfl⟩ q)
    · exact wpAny_pyIter_ascii ha (pi_one (tk := s1.toks) I1 _ (turn_str _ x t "str_ascii_iterator" (.inl rfl)) ⟨_, Heap.get?_push_size _ rfl, rfl, rfl⟩ q)
theorem srcK_out {p : U → Bool} {fu : List U → List U} {Kc' : Src → Prop} (h : srcK r ρ G p fu Kc') : ∃ u xs, vw r ρ G = some u ∧ p u = true ∧ itemsU u = some xs ∧ srcR r ρ u (fu xs) Kc' := by
  obtain ⟨u, e, h⟩ := vwK_out h
  obtain ⟨xs, e2, h⟩ := optK_out h
  cases hp : p u with
  | false => rw [hp] at e2; simp at e2
  | true =>
    rw [hp] at e2
    exact ⟨u, xs, e, hp, by simpa using e2, h⟩
theorem i_seq (ga : PE X e1 (tE c Γ X a)) : PI X tg e1 (tI c Γ X (.seq a)) := by
  refine PI.imp (pi_seq ga) fun σ H Rj ⟨L, Z, ρ, G, Xm, Qm, R, hL, w, tk, en⟩ => ?_
  simp only [wpIt] at w
  refine one (S := fun v H1 => (∃ a xs, v = .ref a ∧ SqL X.K H1 a xs ∧ Rj (Itl X.K a) H1) ∨ (∃ a xs, v = .ref a ∧ SqT X.K H1 a xs ∧ Rj (Itt X.K a) H1) ∨ ∃ x, v = .str x ∧ Rj (Its x) H1) R hL w tk fun ra ρ2 G2 x H2 Z' hz ha hx R2 q w2 => ?_
  obtain ⟨u, xs, ev, _, ei, w2⟩ := srcK_out w2
  have hv := vw_ok R2 q ev
  cases u <;> simp only [itemsU] at ei <;> try (cases ei; done)
  · rename_i s
    cases ei
    simp only [Vw, RepU] at hv
    have := vw_u R2 q ev rfl
    subst this
    refine .inr (.inr ⟨_, hv.1, en (.fix _) ρ2 G2 _ H2 Z' hz hx R2 ⟨_, wk_str hv.2, fun _ _ _ => trivial⟩ w2⟩)
  · rename_i ts
    cases ei
    obtain ⟨src, w3, ok⟩ := src_tup (J := Itt X.K (match x with | .ref p => p | _ => 0)) R2 q ev (fun p e => by subst e; exact wk_tup) w2
    simp only [Vw, RepU] at hv
    obtain ⟨p, vs, e, t, _⟩ := hv
    subst e
    exact .inr (.inl ⟨p, vs, rfl, sqT_of t, en src ρ2 G2 _ H2 Z' hz hx R2 ok w3⟩)
  · rename_i ts
    cases ei
    obtain ⟨src, w3, ok⟩ := src_list (J := Itl X.K (match x with | .ref p => p | _ => 0)) R2 q ha ev (fun p e => by subst e; exact wk_list) w2
    obtain ⟨p, vs, e, t, _⟩ := hv
    subst e
    exact .inl ⟨p, vs, rfl, t, en src ρ2 G2 _ H2 Z' hz hx R2 ok w3⟩
theorem i_rng (C : Ctx c n X K) {fe : Expr} (hf : K.isNm "range" fe = true) (hck : plainX e1 = true) (ga : PE X e1 (tE c Γ X a)) : PI X tg (.Call fe [e1] [] pos) (tI c Γ X (.rng a)) := by
  obtain ⟨xn, p, rfl, exx, hg⟩ := isNm_out hf
  subst exx
  obtain ⟨g1, g2, g3⟩ := gl_of C hg
  refine PI.imp (pi_range1 g1 (C.blt _ (by decide +kernel)) (pa_cons ga pa_nil (star_cons hck)) (star_cons hck)) fun σ H Rj ⟨L, Z, ρ, G, Xm, Qm, R, hL, w, tk, en⟩ => ?_
  simp only [wpIt] at w
  refine one (S := fun x H1 => ∃ j : Int, [x] = [V.int j] ∧ -(2 ^ 62) ≤ j ∧ j < 2 ^ 62 ∧ Rj (Itr 0 j.toNat) H1) R hL w tk fun ra ρ2 G2 x H2 Z' hz ha hx R2 q w2 => ?_
  cases ra <;> try exact w2.elim
  rename_i z
  cases z <;> try exact w2.elim
  rename_i j
  obtain ⟨hb, w2⟩ := w2
  simp only [Val, RepU] at q
  refine ⟨j, by rw [q], hb.2, hb.1, ?_⟩
  have := en (.fix _) ρ2 G2 (Itr 0 (j - 0).toNat) H2 Z' hz hx R2 ⟨_, wk_rng, fun _ _ _ => trivial⟩ w2
  rwa [Int.sub_zero] at this
theorem i_rng2 (C : Ctx c n X K) {fe : Expr} (hf : K.isNm "range" fe = true) (hck : plainX e1 = true) (hck2 : plainX e2 = true) (ga : PE X e1 (tE c Γ X a)) (gb : PE X e2 (tE c Γ X b)) : PI X tg (.Call fe [e1, e2] [] pos) (tI c Γ X (.rng2 a b)) := by
  obtain ⟨xn, p, rfl, exx, hg⟩ := isNm_out hf
  subst exx
  obtain ⟨g1, g2, g3⟩ := gl_of C hg
  refine PI.imp (pi_range2 g1 (C.blt _ (by decide +kernel)) (pa_cons ga (pa_cons gb pa_nil (star_cons hck2)) (star_cons hck)) (by rw [star_cons hck, star_cons hck2]; rfl) (star_cons hck2)) fun σ H Rj ⟨L, Z, ρ, G, Xm, Qm, R, hL, w, tk, en⟩ => ?_
  simp only [wpIt] at w
  refine two (S := fun x y H1 => ∃ i j : Int, [x, y] = [V.int i, V.int j] ∧ (-(2 ^ 62) ≤ i ∧ i < 2 ^ 62 ∧ -(2 ^ 62) ≤ j ∧ j < 2 ^ 62) ∧ Rj (Itr i (j - i).toNat) H1) R hL w tk fun ra rb ρ2 G2 x y H2 Z' hz ha hb hx R2 q q2 w2 => ?_
  cases ra <;> try exact w2.elim
  rename_i z
  cases z <;> try exact w2.elim
  rename_i i
  cases rb <;> try exact w2.elim
  rename_i z
  cases z <;> try exact w2.elim
  rename_i j
  obtain ⟨hbd, w2⟩ := w2
  simp only [Val, RepU] at q q2
  exact ⟨i, j, by rw [q, q2], ⟨hbd.2.2.2, hbd.2.2.1, hbd.2.1, hbd.1⟩, en (.fix _) ρ2 G2 _ H2 Z' hz hx R2 ⟨_, wk_rng, fun _ _ _ => trivial⟩ w2⟩
theorem i_enm (C : Ctx c n X K) {fe : Expr} {elts : List Expr} {kk : Nat} {tpos : Pos} (hf : K.isNm "enumerate" fe = true) (hck : plainX e1 = true) (ga : PE X e1 (tE c Γ X a)) : PI X (.Tuple elts kk tpos) (.Call fe [e1] [] pos) (tI c Γ X (.enm a)) := by
  obtain ⟨xn, p, rfl, exx, hg⟩ := isNm_out hf
  subst exx
  obtain ⟨g1, g2, g3⟩ := gl_of C hg
  refine PI.imp (RE.pi_enumA g1 (C.blt _ (by decide +kernel)) (pa_cons ga pa_nil (star_cons hck)) (star_cons hck)) fun σ H Rj ⟨L, Z, ρ, G, Xm, Qm, R, hL, w, tk, en⟩ => ?_
  simp only [wpIt] at w
  refine one (S := fun x H1 => ∃ a xs, [x] = [V.ref a] ∧ ((SqL X.K H1 a xs ∧ Rj (Ite X.K a) H1) ∨ (SqT X.K H1 a xs ∧ Rj (RE.IteT X.K a) H1))) R hL w tk fun ra ρ2 G2 x H2 Z' hz ha hx R2 q w2 => ?_
  obtain ⟨u, xs, ev, hp, ei, w2⟩ := srcK_out w2
  have hv := vw_ok R2 q ev
  cases u <;> simp only [isLT] at hp <;> try (cases hp; done)
  · cases ei
    simp only [Vw, RepU] at hv
    obtain ⟨p, vs, e, t, qs⟩ := hv
    obtain ⟨src, w3, ok⟩ := src_tup (J := RE.IteT X.K p) R2 q ev (fun p2 e2 => by rw [e] at e2; cases e2; exact wk_enumT) w2
    exact ⟨p, vs, by rw [e], .inr ⟨sqT_of t, en src ρ2 G2 _ H2 Z' hz hx R2 ok w3⟩⟩
  · cases ei
    obtain ⟨p, vs, e, t, qs⟩ := hv
    obtain ⟨src, w3, ok⟩ := src_list (J := Ite X.K p) R2 q ha ev (fun p2 e2 => by rw [e] at e2; cases e2; exact wk_enum) w2
    exact ⟨p, vs, by rw [e], .inl ⟨t, en src ρ2 G2 _ H2 Z' hz hx R2 ok w3⟩⟩
theorem sl_u {Kf : PySem.W.Frag} {Z : Addr → Prop} {H : Hp} {f : Addr → Prop} {xs : List U} {p : Addr} (q : RepU Kf H (Or2 f Z) (.lst xs) (.ref p)) : ∀ H2 f2, Ext H f H2 f2 → SL Kf p xs H2 (Or2 f2 Z) := fun H2 f2 hx => by
  have := RepU.ext hx.keepZ _ q
  simp only [RepU] at this
  obtain ⟨p2, ws, e2, t2, q2⟩ := this
  cases e2
  exact ⟨ws, sqL_of t2, q2⟩
theorem st_u {Kf : PySem.W.Frag} {Z : Addr → Prop} {H : Hp} {f : Addr → Prop} {xs : List U} {p : Addr} (q : RepU Kf H (Or2 f Z) (.tup xs) (.ref p)) : ∀ H2 f2, Ext H f H2 f2 → ST Kf p xs H2 (Or2 f2 Z) := fun H2 f2 hx => by
  have := RepU.ext hx.keepZ _ q
  simp only [RepU] at this
  obtain ⟨p2, ws, e2, t2, q2⟩ := this
  cases e2
  exact ⟨ws, t2, q2⟩
theorem i_zip (C : Ctx c n X K) {fe : Expr} {elts : List Expr} {kk : Nat} {tpos : Pos} (hf : K.isNm "zip" fe = true) (hck : plainX e1 = true) (hck2 : plainX e2 = true) (ga : PE X e1 (tE c Γ X a)) (gb : PE X e2 (tE c Γ X b)) : PI X (.Tuple elts kk tpos) (.Call fe [e1, e2] [] pos) (tI c Γ X (.zip a b)) := by
  obtain ⟨xn, p, rfl, exx, hg⟩ := isNm_out hf
  subst exx
  obtain ⟨g1, g2, g3⟩ := gl_of C hg
  refine PI.imp (RZ.pi_zipA g1 (C.blt _ (by decide +kernel)) (pa_cons ga (pa_cons gb pa_nil (star_cons hck2)) (star_cons hck)) (star_cons hck) (by rw [star_cons hck2]; rfl)) fun σ H Rj ⟨L, Z, ρ, G, Xm, Qm, R, hL, w, tk, en⟩ => ?_
  simp only [wpIt] at w
  refine two (S := fun x y H1 => ∃ a b xs ys, [x, y] = [V.ref a, V.ref b] ∧ ((SqL X.K H1 a xs ∧ SqL X.K H1 b ys ∧ Rj (Itz X.K a b) H1) ∨ (SqT X.K H1 a xs ∧ SqT X.K H1 b ys ∧ Rj (RZ.ItzT X.K a b) H1))) R hL w tk fun ra rb ρ2 G2 x y H2 Z' hz ha hb hx R2 q q2 w2 => ?_
  cases ra <;> try exact w2.elim
  rename_i z
  cases rb <;> try exact w2.elim
  rename_i z2
  simp only [Val] at q q2
  cases z <;> simp only [zipK] at w2 <;> try exact w2.elim
  · cases z2 <;> simp only at w2 <;> try exact w2.elim
    obtain ⟨p1, vs, e, t, _⟩ := id (by simpa only [RepU] using q)
    obtain ⟨p2, ws, e2, t2, _⟩ := id (by simpa only [RepU] using q2)
    subst e
    subst e2
    exact ⟨p1, p2, vs, ws, rfl, .inr ⟨sqT_of t, sqT_of t2, en (.fix _) ρ2 G2 _ H2 Z' hz hx R2 ⟨_, wk_zipT, fun H3 f3 hx3 => ⟨st_u q H3 f3 hx3, st_u q2 H3 f3 hx3⟩⟩ w2⟩⟩
  · cases z2 <;> simp only at w2 <;> try exact w2.elim
    obtain ⟨p1, vs, e, t, _⟩ := id (by simpa only [RepU] using q)
    obtain ⟨p2, ws, e2, t2, _⟩ := id (by simpa only [RepU] using q2)
    subst e
    subst e2
    exact ⟨p1, p2, vs, ws, rfl, .inl ⟨sqL_of t, sqL_of t2, en (.fix _) ρ2 G2 _ H2 Z' hz hx R2 ⟨_, wk_zip, fun H3 f3 hx3 => ⟨sl_u q H3 f3 hx3, sl_u q2 H3 f3 hx3⟩⟩ w2⟩⟩
theorem i_rev (C : Ctx c n X K) {fe : Expr} (hf : K.isNm "reversed" fe = true) (hck : plainX e1 = true) (ga : PE X e1 (tE c Γ X a)) : PI X tg (.Call fe [e1] [] pos) (tI c Γ X (.rev a)) := by
  obtain ⟨xn, p, rfl, exx, hg⟩ := isNm_out hf
  subst exx
  obtain ⟨g1, g2, g3⟩ := gl_of C hg
  refine PI.imp (RT.pi_revA g1 (C.blt _ (by decide +kernel)) ga (star_cons hck)) fun σ H Rj ⟨L, Z, ρ, G, Xm, Qm, R, hL, w, tk, en⟩ => ?_
  simp only [wpIt] at w
  refine one (S := fun v H1 => ∃ (a : Addr) (xs : List V), v = .ref a ∧ ((SqL X.K H1 a xs ∧ Rj (Itv X.K a xs.length) H1) ∨ (SqT X.K H1 a xs ∧ Rj (RT.ItvT X.K a xs.length) H1))) R hL w tk fun ra ρ2 G2 x H2 Z' hz ha hx R2 q w2 => ?_
  obtain ⟨u, xs, ev, hp, ei, w2⟩ := srcK_out w2
  have hv := vw_ok R2 q ev
  cases u <;> simp only [isLT] at hp <;> try (cases hp; done)
  · cases ei
    simp only [Vw, RepU] at hv
    obtain ⟨p, vs, e, t, qs⟩ := hv
    obtain ⟨src, w3, ok⟩ := src_tup (J := RT.ItvT X.K p vs.length) R2 q ev (fun p2 e2 => by rw [e] at e2; cases e2; exact wk_revT qs.length.symm) w2
    exact ⟨p, vs, e, .inr ⟨sqT_of t, en src ρ2 G2 _ H2 Z' hz hx R2 ok w3⟩⟩
  · cases ei
    obtain ⟨p, vs, e, t, qs⟩ := hv
    obtain ⟨src, w3, ok⟩ := src_list (J := Itv X.K p vs.length) R2 q ha ev (fun p2 e2 => by rw [e] at e2; cases e2; exact wk_rev qs.length.symm) w2
    exact ⟨p, vs, e, .inl ⟨t, en src ρ2 G2 _ H2 Z' hz hx R2 ok w3⟩⟩
end
end Mp
namespace Mp
open PySem PySem.Spec PyProof.Rows L2
section
variable {c : Cx0} {n : Nat} {X : Cx} {K : Ck} {L Z Z' : Addr → Prop} {σ : L2.St} {H H1 H2 : Hp} {ρ ρ1 ρ2 : Rho} {G G1 G2 : Hh} {f ex : Addr → Prop} {x y v : V} {u w : U} {Qm : Kc} {Q : VK} {a b d : E} {e1 e2 e3 tg : Expr} {pos p2 : Pos} {r : R} {ca : Cs} {Γ : Cal} {Kf : PySem.W.Frag}
/-- a slot gets another content; N: the new list's address, reserved so far -/
theorem Rep.store {N : Addr → Prop} {i : Nat} {sv : SV} (R : Rep ca Kf L (Or2 Z N) σ H ρ G) (hL : ∀ a, L a → Z a) (hi : i < ρ.length) (hN : ∀ a, N a → (∃ x, sv = .own x) ∧ v = .ref a) (hN2 : ∀ x a, sv = .own x → v = .ref a → N a) (hZN : ∀ a, N a → ¬ Z a)
    (q : RepS ca Kf L H (Or2 (fp σ ρ G) (Or2 Z N)) (fp σ ρ G) sv v) : Rep ca Kf L Z (σ.set i (some v)) H (ρ.set i (some sv)) G ∧ ∀ a, fp (σ.set i (some v)) (ρ.set i (some sv)) G a → fp σ ρ G a ∨ N a := by
  have hσ : i < σ.length := by rw [R.len]; exact hi
  have inv : ∀ {j : Nat} {s : SV}, (ρ.set i (some sv))[j]? = some (some s) → (j = i ∧ s = sv) ∨ (j ≠ i ∧ ρ[j]? = some (some s)) := fun {j s} h => by
    rcases set_at h with ⟨e1, e2⟩ | h
    · cases e2; exact .inl ⟨e1, rfl⟩
    · exact .inr h
  have sI : (σ.set i (some v))[i]? = some (some v) := List.getElem?_set_self hσ
  have sN : ∀ {j : Nat}, j ≠ i → (σ.set i (some v))[j]? = σ[j]? := fun {j} h => List.getElem?_set_ne (Ne.symm h)
  have sub : ∀ a, fp (σ.set i (some v)) (ρ.set i (some sv)) G a → fp σ ρ G a ∨ N a := fun a h => by
    rcases h with h | ⟨j, x, h1, h2⟩
    · exact .inl (.inl h)
    · rcases inv h1 with ⟨e1, e2⟩ | ⟨ne, h1⟩
      · subst e1
        rw [sI] at h2
        exact .inr (hN2 x a e2.symm (by cases h2; rfl))
      · rw [sN ne] at h2
        exact .inl (.inr ⟨j, x, h1, h2⟩)
  have hx : Ext H (Or2 (fp σ ρ G) (Or2 Z N)) H (Or2 (fp (σ.set i (some v)) (ρ.set i (some sv)) G) Z) := Ext.sub fun a z => z.elim (fun z => (sub a z).elim .inl fun z => .inr (.inr z)) fun z => .inr (.inl z)
  have nN : ∀ a, N a → ¬ fp σ ρ G a := fun a z => (R.zd a (.inr z)).1
  refine ⟨⟨by rw [List.length_set, List.length_set]; exact R.len, fun j s e => ?_, fun j k u w a h1 h2 h3 h4 => ?_, fun j u a h1 h2 => ?_, fun a o e => ?_, fun a z => ?_⟩, sub⟩
  · rcases inv e with ⟨e1, e2⟩ | ⟨ne, e⟩
    · subst e1 e2
      refine ⟨v, sI, ?_⟩
      cases s with
      | u x => exact RepU.ext hx x q
      | own x =>
        obtain ⟨a, o, h1, h2, q⟩ := q
        exact ⟨a, o, h1, h2, q.ext hx⟩
      | fz t x =>
        obtain ⟨h1, ⟨h2, h3⟩, o, h4, q⟩ := q
        exact ⟨h1, ⟨fun z => (sub t z).elim h2 fun z => hZN t z (hL t h3), h3⟩, o, h4, q.ext hx⟩
      | exc k d => exact RepE.ext hx q
    · obtain ⟨w, h1, q⟩ := R.slot j s e
      refine ⟨w, by rw [sN ne]; exact h1, ?_⟩
      cases s with
      | u x => exact RepU.ext hx x q
      | own x =>
        obtain ⟨a, o, h1, h2, q⟩ := q
        exact ⟨a, o, h1, h2, q.ext hx⟩
      | fz t x =>
        obtain ⟨h1, ⟨h2, h3⟩, o, h4, q⟩ := q
        exact ⟨h1, ⟨fun z => (sub t z).elim h2 fun z => hZN t z (hL t h3), h3⟩, o, h4, q.ext hx⟩
      | exc k d => exact RepE.ext hx q
  · rcases inv h1 with ⟨e1, e2⟩ | ⟨ne, h6⟩
    · rcases inv h2 with ⟨e3, e4⟩ | ⟨ne2, h5⟩
      · rw [e1, e3]
      · subst e1
        rw [sI] at h3
        rw [sN ne2] at h4
        exact absurd (.inr ⟨k, w, h5, h4⟩) (nN a (hN2 u a e2.symm (by cases h3; rfl)))
    · rcases inv h2 with ⟨e3, e4⟩ | ⟨ne2, h5⟩
      · subst e3
        rw [sI] at h4
        rw [sN ne] at h3
        exact absurd (.inr ⟨j, u, h6, h3⟩) (nN a (hN2 w a e4.symm (by cases h4; rfl)))
      · rw [sN ne] at h3
        rw [sN ne2] at h4
        exact R.own j k u w a h6 h5 h3 h4
  · rcases inv h1 with ⟨e1, e2⟩ | ⟨ne, h1⟩
    · subst e1
      rw [sI] at h2
      have := nN a (hN2 u a e2.symm (by cases h2; rfl))
      cases e : G a with
      | none => rfl
      | some o => exact absurd (.inl ⟨o, e⟩) this
    · rw [sN ne] at h2
      exact R.ownG j u a h1 h2
  · obtain ⟨ho, h1, q⟩ := R.heap a o e
    exact ⟨ho, h1, q.ext hx⟩
  · obtain ⟨h1, h2⟩ := R.zd a (.inl z)
    exact ⟨fun h => (sub a h).elim h1 fun h => hZN a h z, h2⟩
theorem setK_lt {i : Nat} {o : Option SV} {K0 : Rho → Prop} (h : setK ρ i o K0) : i < ρ.length ∧ K0 (ρ.set i o) := setK_iff.mp h
/-- an answer stored under a name -/
theorem asgN_ok {i : Nat} {K0 : Rho → Prop} (R : Rep ca Kf L (Or2 Z (Hd r v)) σ H ρ G) (hL : ∀ a, L a → Z a) (q : Val ca.w Kf H (Or2 (fp σ ρ G) (Or2 Z (Hd r v))) σ r v) (nz : ∀ p, Hd r v p → ¬ Z p) (h : asgN i r ρ K0) :
    ∃ ρ', K0 ρ' ∧ Rep ca Kf L Z (σ.set i (some v)) H ρ' G ∧ ∀ a, fp (σ.set i (some v)) ρ' G a → fp σ ρ G a ∨ Hd r v a := by
  cases r with
  | u x =>
    obtain ⟨hi, k⟩ := setK_lt h
    obtain ⟨R2, sub⟩ := R.store (v := v) (sv := .u x) hL hi (fun a z => z.elim) (fun x a e => by cases e) nz q
    exact ⟨_, k, R2, sub⟩
  | tmp x =>
    obtain ⟨hi, k⟩ := setK_lt h
    obtain ⟨R2, sub⟩ := R.store (v := v) (sv := .own x) hL hi (fun a z => ⟨⟨x, rfl⟩, z⟩) (fun x a _ e => e) nz q
    exact ⟨_, k, R2, sub⟩
  | exc k => exact h.elim
  | lv j =>
    have q' : σ[j]? = some (some v) := q
    have h' : asgN i (.lv j) ρ K0 := h
    unfold asgN at h'
    simp only at h'
    cases hs : ρ[j]? with
    | none => rw [hs] at h'; exact h'.elim
    | some os =>
      rw [hs] at h'
      cases os with
      | none => exact h'.elim
      | some sv =>
        cases sv with
        | u x => exact h'.elim
        | exc k => exact h'.elim
        | own x =>
          obtain ⟨hj, h'⟩ := setK_lt h'
          obtain ⟨hi, k⟩ := setK_lt h'
          obtain ⟨R1, q1, sub1⟩ := R.freeze hs q'
          obtain ⟨R2, sub⟩ := R1.store (v := v) (sv := .u x) hL hi (fun a z => z.elim) (fun x a e => by cases e) (fun a z => z.elim) q1
          exact ⟨_, k, R2, fun a z => (sub a z).imp (sub1 a) id⟩
        | fz t x =>
          obtain ⟨hi, k⟩ := setK_lt h'
          obtain ⟨w, e1, q1⟩ := R.slot j _ hs
          rw [q'] at e1
          cases e1
          obtain ⟨R2, sub⟩ := R.store (v := v) (sv := .fz t x) hL hi (fun a z => z.elim) (fun x a e => by cases e) nz q1
          exact ⟨_, k, R2, sub⟩
theorem wipe_in {σ : L2.St} {i : Nat} : ∀ {vs : List Nat}, i ∈ vs → i < σ.length → (wipe σ vs)[i]? = some none
  | v :: vs, h, hl => by
    unfold wipe
    by_cases e : v = i
    · subst e
      exact List.getElem?_set_self (by rw [wipe_length]; exact hl)
    · rw [List.getElem?_set_ne e]
      refine wipe_in ((List.mem_cons.mp h).resolve_left fun q => e q.symm) hl
theorem wipe_set {σ : L2.St} {i : Nat} {o : Option V} {vs : List Nat} (h : i ∈ vs) : wipe (σ.set i o) vs = wipe σ vs := by
  refine List.ext_getElem? fun j => ?_
  by_cases hj : j ∈ vs
  · by_cases hl : j < σ.length
    · rw [wipe_in hj hl, wipe_in hj (by rw [List.length_set]; exact hl)]
    · rw [List.getElem?_eq_none (by rw [wipe_length, List.length_set]; omega), List.getElem?_eq_none (by rw [wipe_length]; omega)]
  · rw [wipe_out hj, wipe_out hj, List.getElem?_set_ne (fun e => hj (by rw [← e]; exact h))]
theorem wipe_wipe {σ : L2.St} {vs : List Nat} : wipe (wipe σ vs) vs = wipe σ vs := by
  refine List.ext_getElem? fun j => ?_
  by_cases hj : j ∈ vs
  · by_cases hl : j < σ.length
    · rw [wipe_in hj hl, wipe_in hj (by rw [wipe_length]; exact hl)]
    · rw [List.getElem?_eq_none (by rw [wipe_length, wipe_length]; omega), List.getElem?_eq_none (by rw [wipe_length]; omega)]
  · rw [wipe_out hj]
/-- the end of a store -/
noncomputable def EndG (c : Cx0) (X : Cx) (L Z : Addr → Prop) (H0 : Hp) (f0 : Addr → Prop) (fr : L2.St → Prop) (Qm : Nx) (Q : L2.St → Hp → Prop) : Prop :=
  ∀ σ' ρ' G' H', fr σ' → Ext H0 f0 H' (fp σ' ρ' G') → Rep c.ca X.K L Z σ' H' ρ' G' → Qm ρ' G' → Q σ' H'
noncomputable def tT (c : Cx0) (Γ : Cal) (X : Cx) (t : T) : TG := fun v σ H Q => ∃ L Z H0 f0 ρ G r Xm Qm, RepR c.ca X.K L Z σ H0 f0 H ρ G r v ∧ (∀ a, L a → Z a) ∧ Ext H0 f0 H (fp σ ρ G) ∧ asgT c.P Γ t r ρ G Xm Qm ∧ Tk c X L Z H0 f0 Xm ∧ EndG c X L Z H0 f0 (fun σ' => ∀ vs, tgB vs t = true → wipe σ' vs = wipe σ vs) Qm Q
noncomputable def tTs (c : Cx0) (Γ : Cal) (X : Cx) (ts : Ts) : TGs := fun vs σ H Q => ∃ L Z H0 f0 ρ G us Xm Qm, Rep c.ca X.K L Z σ H ρ G ∧ RepUs X.K H (Or2 (fp σ ρ G) Z) us vs ∧ (∀ a, L a → Z a) ∧ Ext H0 f0 H (fp σ ρ G) ∧ asgTs c.P Γ ts us ρ G Xm Qm ∧ Tk c X L Z H0 f0 Xm ∧ EndG c X L Z H0 f0 (fun σ' => ∀ vs, tgBs vs ts = true → wipe σ' vs = wipe σ vs) Qm Q
theorem PG.imp {t t' : TG} (h : PG X tg t) (i : ∀ v σ H Q, t' v σ H Q → t v σ H Q) : PG X tg t' := ⟨fun pins s σ H v u Q I r q => h.run pins s σ H v u Q I r (i v σ H Q q)⟩
theorem PGs.imp {tgs : List Expr} {t t' : TGs} (h : PGs X tgs t) (i : ∀ v σ H Q, t' v σ H Q → t v σ H Q) : PGs X tgs t' := ⟨fun pins s σ H v u Q I r q => h.run pins s σ H v u Q I r (i v σ H Q q)⟩
theorem Ext.store {H0 : Hp} {f0 f1 f2 : Addr → Prop} {N : Addr → Prop} (h : Ext H0 f0 H f1) (hs : ∀ a, f2 a → f1 a ∨ N a) (hn : ∀ p, N p → H0 p = none ∨ f0 p) : Ext H0 f0 H f2 := fun a o e k => by
  refine ⟨(h a o e k).1, fun z => (hs a z).elim (h a o e k).2 fun z => ?_⟩
  rcases hn a z with m | m
  · rw [e] at m; cases m
  · exact k m
theorem nm_go {i : Nat} {Q : L2.St → Hp → Prop} (h : tT c Γ X (.nm i) v σ H Q) : gName i v σ H Q := by
  obtain ⟨L, Z, H0, f0, ρ, G, r, Xm, Qm, R, hL, hx, w, tk, en⟩ := h
  simp only [asgT] at w
  obtain ⟨ρ', k, R2, sub⟩ := asgN_ok R.rep hL R.val (fun p z => (R.new p z).2) w
  exact en _ ρ' G H (fun vs hv => wipe_set (by simpa [tgB] using hv)) (hx.store sub fun p z => (R.new p z).1) R2 k
theorem g_nm (C : Ctx c n X K) {i : Nat} {xn : Str} (hs : K.sto i xn = true) : PG X (.Name xn pos) (tT c Γ X (.nm i)) := by
  obtain ⟨h1, h2, h3⟩ := C.sto i xn hs
  exact PG.imp (pg_name C.nd h1 h2 h3) fun v σ H Q h => nm_go h
theorem gs_nil : PGs X [] (tTs c Γ X .nil) := by
  refine PGs.imp pgs_nil fun vs σ H Q ⟨L, Z, H0, f0, ρ, G, us, Xm, Qm, R, q, hL, hx, w, tk, en⟩ => ?_
  simp only [asgTs] at w
  obtain ⟨e, w⟩ := w
  subst e
  simp only [RepUs] at q
  exact ⟨q, en σ ρ G H (fun _ _ => rfl) hx R w⟩
theorem gs_cons {t : T} {ts : Ts} {el : List Expr} (g1 : PG X e1 (tT c Γ X t)) (g2 : PGs X el (tTs c Γ X ts)) (hs : (assignEach (e1 :: el) X.env).map (·.2) = assign e1 X.env :: (assignEach el X.env).map (·.2)) : PGs X (e1 :: el) (tTs c Γ X (.cons t ts)) := by
  refine PGs.imp (pgs_cons g1 g2 hs) fun vs σ H Q ⟨L, Z, H0, f0, ρ, G, us, Xm, Qm, R, q, hL, hx, w, tk, en⟩ => ?_
  simp only [asgTs] at w
  cases us with
  | nil => exact w.elim
  | cons u us =>
    simp only [RepUs] at q
    obtain ⟨v, t', e, q1, q2⟩ := q
    refine ⟨v, t', e, L, Z, H, fp σ ρ G, ρ, G, .u u, Xm, _, ⟨?_, ?_, fun p z => z.elim⟩, hL, Ext.refl _ _, w, tk.go hx fun a z => z, fun σ1 ρ1 G1 H1 fr1 hx1 R1 w1 => ?_⟩
    · rw [hd_u, or2_false]; exact R
    · rw [hd_u, or2_false]; exact q1
    · exact ⟨L, Z, H0, f0, ρ1, G1, us, Xm, Qm, R1, RepUs.ext hx1.keepZ _ q2, hL, hx.trans hx1, w1, tk, fun σ' ρ' G' H' fr => en σ' ρ' G' H' fun vs hv => by
        simp only [tgBs, Bool.and_eq_true] at hv
        rw [fr vs hv.2, fr1 vs hv.1]⟩
theorem g_tup {ts : Ts} {el : List Expr} {k : Nat} (hc : X.calm = true) (g : PGs X el (tTs c Γ X ts)) (hn : (assignEach el X.env).length = tsLen ts) (hst : (assignEach el X.env).findIdx? (·.1) = none) : PG X (.Tuple el k pos) (tT c Γ X (.tp ts)) := by
  refine PG.imp (pg_tup hc g rfl hst) fun v σ H Q ⟨L, Z, H0, f0, ρ, G, r, Xm, Qm, R, hL, hx, w, tk, en⟩ => ?_
  simp only [asgT] at w
  cases r <;> try exact w.elim
  rename_i x
  cases x <;> try exact w.elim
  rename_i us
  obtain ⟨hlen, w⟩ := w
  have qv := R.val
  rw [hd_u, or2_false] at qv
  have R1 := R.rep
  rw [hd_u, or2_false] at R1
  have qv' : RepU X.K H (Or2 (fp σ ρ G) Z) (.tup us) v := qv
  simp only [RepU] at qv'
  obtain ⟨p, vs, e, t, q⟩ := qv'
  exact ⟨p, vs, e, sqT_of t, by rw [hn, ← hlen]; exact q.length.symm, L, Z, H0, f0, ρ, G, us, Xm, Qm, R1, q, hL, hx, w, tk, fun σ' ρ' G' H' fr => en σ' ρ' G' H' fun vs hv => fr vs (by simpa only [tgB] using hv)⟩
/-- d[k] = v -/
theorem PSet.or' {t1 t2 : TSet} (h1 : PSet X t1) (h2 : PSet X t2) : PSet X (fun o i v H Q => t1 o i v H Q ∨ t2 o i v H Q) := fun pins s σ H o i v ov iv u Q I r1 r2 r3 q =>
  q.elim (h1 pins s σ H o i v ov iv u Q I r1 r2 r3) (h2 pins s σ H o i v ov iv u Q I r1 r2 r3)
theorem g_ix (hu : X.A.units + 64 < cLine) (ew : c.ca.w = X.w) {a b : E} (ga : PE X e1 (tE c Γ X a)) (gb : PE X e2 (tE c Γ X b))
    (ha : ∀ v, assign (.Subscript e1 e2 pos) X.env v = (do
      let ov ← holding [v] (eval e1 X.env)
      let iv ← holding [v, ov] (eval e2 X.env)
      standAt pos
      holding [v, ov, iv] (setItem ov iv v)
      release [v, ov, iv] [])) : PG X (.Subscript e1 e2 pos) (tT c Γ X (.ix a b)) := by
  refine PG.imp (pg_sub ga gb (PSet.or' set_list (PSet.or' (set_dict (by omega)) (set_dit hu))) ha) fun v σ H Q ⟨L, Z, H0, f0, ρ, G, r, Xm, Qm, R, hL, hx, w, tk, en⟩ => ?_
  simp only [asgT] at w
  refine ⟨L, Or2 Z (Hd r v), ρ, G, Xm, _, R.rep, fun a z => .inl (hL a z), w, tk.go hx fun a => .inl, fun ro ρ1 G1 x H1 hx1 R1 w1 => ?_⟩
  refine ⟨L, Or2 (Or2 Z (Hd r v)) (Hd ro x), ρ1, G1, Xm, _, R1.rep, fun a z => .inl (.inl (hL a z)), w1, tk.go (hx.trans hx1) fun a z => .inl (.inl z), fun ri ρ2 G2 y H2 hx2 R2 w2 => ?_⟩
  have qr := (R.val.step (fun a z => .inr z) (fun a z => (R.rep.zd a z).1) hx1 fun p z => (R1.new p z).1).step (fun a z => .inl (.inr z)) (fun a z => (R1.rep.zd a z).1) hx2 fun p z => (R2.new p z).1
  have qo := R1.val.step (fun a z => .inr z) (fun a z => (R1.rep.zd a z).1) hx2 fun p z => (R2.new p z).1
  have hds : Hds [r] [v] = Hd r v := or2_false
  have less : ∀ a, Or2 Z (Hds [r] [v]) a → Or2 (Or2 (Or2 Z (Hd r v)) (Hd ro x)) (Hd ri y) a := fun a z => by rw [hds] at z; exact .inl (.inl z)
  obtain ⟨us, ρ3, k3, R3, q3, sub3⟩ := toUs_ok (rs := [r]) (vs := [v]) (K0 := fun us ρ3 => match us with
    | [u] => ixK ri fun i => vwK ro ρ3 G2 fun o => setU o i u fun o' => putR ro o' ρ3 G2 Qm
    | _ => False) (R2.rep.less less) ⟨v, [], rfl, qr.ext (Ext.sub fun a z => z.elim .inl fun z => .inr (less a z)), rfl⟩ ⟨fun a _ z => z, trivial⟩ (fun p z => by rw [hds] at z; exact (R.new p z).2) w2
  obtain ⟨u, eu, qu⟩ := repUs_one q3
  subst eu
  cases ri <;> try exact k3.elim
  rename_i ui
  obtain ⟨uo, eo, k3⟩ := vwK_out k3
  cases uo <;> try exact k3.elim
  · rename_i xs
    cases ui <;> try exact k3.elim
    rename_i kk _
    obtain ⟨j, ej, k3⟩ := optK_out k3
    have qi := R2.val
    simp only [Val, RepU] at qi
    have sub4 : ∀ a, Or2 (fp σ ρ3 G2) Z a → Or2 (fp σ ρ2 G2) (Or2 (Or2 (Or2 Z (Hd r v)) (Hd ro x)) (Hd (.u (.int kk)) y)) a := fun a z => z.elim (fun z => .inl (sub3 a z)) fun z => .inr (.inl (.inl (.inl z)))
    obtain ⟨p, vs, ep, hp, qs, fin⟩ := put_list R3 (qo.ext (Ext.sub sub4)) eo k3
    obtain ⟨ρ4, G4, k4, R4, hf, pf⟩ := fin (vs.set j v) (qs.set j qu)
    refine .inl ⟨p, vs, kk, j, ep, qi, hp, by rw [← qs.length]; exact ej, ?_⟩
    have hxx : Ext H0 f0 H2 (fp σ ρ3 G2) := fun a o e n => ⟨((hx.trans (hx1.trans hx2)) a o e n).1, fun z => ((hx.trans (hx1.trans hx2)) a o e n).2 (sub3 a z)⟩
    exact en σ ρ4 G4 _ (fun _ _ => rfl) (hxx.upd' pf hf) R4 k4
  · rename_i ks ws
    obtain ⟨⟨hk, hl⟩, k3⟩ := k3
    have qi := R2.val
    obtain ⟨k, x3, x4⟩ := key_out hk qi
    subst x3 x4
    have sub4 : ∀ a, Or2 (fp σ ρ3 G2) Z a → Or2 (fp σ ρ2 G2) (Or2 (Or2 (Or2 Z (Hd r v)) (Hd ro x)) (Hd (.u (kKey k)) (kV k))) a := fun a z => z.elim (fun z => .inl (sub3 a z)) fun z => .inr (.inl (.inl (.inl z)))
    obtain ⟨p, kvs, ep, hp, e2, qs, fin⟩ := put_dic R3 (qo.ext (Ext.sub sub4)) eo k3
    subst e2
    obtain ⟨d1, d2⟩ := putD_rep k qu kvs qs
    obtain ⟨ρ4, G4, k4, R4, hf, pf⟩ := fin (.dK (putK kvs k v)) ⟨_, rfl, d1, d2⟩
    rw [List.length_map] at hl
    refine .inr (.inl ⟨p, _, ep, DPut.k hp hl, ?_⟩)
    have hxx : Ext H0 f0 H2 (fp σ ρ3 G2) := fun a o e n => ⟨((hx.trans (hx1.trans hx2)) a o e n).1, fun z => ((hx.trans (hx1.trans hx2)) a o e n).2 (sub3 a z)⟩
    exact en σ ρ4 G4 _ (fun _ _ => rfl) (hxx.upd' pf hf) R4 k4
  · rename_i ks ws
    obtain ⟨⟨hk, hl⟩, k3⟩ := k3
    have qi := R2.val
    simp only [Val] at qi
    obtain ⟨b, eb⟩ := key_ref hk qi
    subst eb
    have sub4 : ∀ a, Or2 (fp σ ρ3 G2) Z a → Or2 (fp σ ρ2 G2) (Or2 (Or2 (Or2 Z (Hd r v)) (Hd ro x)) (Hd (.u ui) (.ref b))) a := fun a z => z.elim (fun z => .inl (sub3 a z)) fun z => .inr (.inl (.inl (.inl z)))
    obtain ⟨p, xs, vs, ep, hp, n, hz, nd, kr, hv, qs, fin⟩ := put_dit R3 (qo.ext (Ext.sub sub4)) eo k3
    have qi2 : RepU X.K H2 (Or2 (fp σ ρ3 G2) Z) ui (.ref b) := RepU.ext (Ext.sub sub4) ui qi
    refine .inr (.inr ⟨p, xs, _, ui, b, ks, ep, rfl, by rw [← ew]; exact hp, nd, hz, kr, hk, qi2, fun x0 rx nd2 => ?_⟩)
    obtain ⟨d1, vs2, d2, d3⟩ := putT_rep (x := x0) hk qi2 qu rx kr hv qs
    obtain ⟨ρ4, G4, k4, R4, hf, pf⟩ := fin (.ext (DitR c.ca.w p (storedH xs (kN ui) b x0))) ⟨_, vs2, rfl, n, by rw [keyR_len kr] at hl; exact Nat.le_trans (storedH_len xs _ _ _) hl, nd2, d1, d2, d3⟩
    have hxx : Ext H0 f0 H2 (fp σ ρ3 G2) := fun a o e n => ⟨((hx.trans (hx1.trans hx2)) a o e n).1, fun z => ((hx.trans (hx1.trans hx2)) a o e n).2 (sub3 a z)⟩
    rw [← ew]
    exact en σ ρ4 G4 _ (fun _ _ => rfl) (hxx.upd' pf hf) R4 k4
/-- o.f = v -/
theorem g_fd (C : Ctx c n X K) {a : E} {fi : Nat} {nm : Str} (hf : K.fdn.lookup fi = some nm) (ga : PE X e1 (tE c Γ X a)) : PG X (.Attribute e1 nm pos) (tT c Γ X (.fd a fi)) := by
  have hn := C.fdn _ _ hf
  subst hn
  refine ⟨fun pins s σ H v u Q I rv h => ?_⟩
  obtain ⟨L, Z, H0, f0, ρ, G, r, Xm, Qm, R, hL, hx, w, tk, en⟩ := h
  simp only [asgT] at w
  have key : tE c Γ X a σ H fun x H1 => ∃ p C0 dx gs, x = .ref p ∧ H1 p = some (.ins C0 dx gs) ∧ Cls X.K C0 ∧ NoAttr X.K C0 (c.ca.fn fi) ∧ gs.length < 1000 ∧ Q σ (upd H1 p (.ins C0 dx (L2.putF (c.ca.fn fi) v gs))) := by
    refine ⟨L, Or2 Z (Hd r v), ρ, G, Xm, _, R.rep, fun a z => .inl (hL a z), w, tk.go hx fun a => .inl, fun ro ρ1 G1 x H1 hx1 R1 w1 => ?_⟩
    have qr := R.val.step (fun a z => .inr z) (fun a z => (R.rep.zd a z).1) hx1 fun p z => (R1.new p z).1
    have hds : Hds [r] [v] = Hd r v := or2_false
    have less : ∀ a, Or2 Z (Hds [r] [v]) a → Or2 (Or2 Z (Hd r v)) (Hd ro x) a := fun a z => by rw [hds] at z; exact .inl z
    obtain ⟨us, ρ3, k3, R3, q3, sub3⟩ := toUs_ok (rs := [r]) (vs := [v]) (K0 := fun us ρ3 => match us with
      | [u] => putA c.P ro fi u G1 fun G2 => Qm ρ3 G2
      | _ => False) (R1.rep.less less) ⟨v, [], rfl, qr.ext (Ext.sub fun a z => z.elim .inl fun z => .inr (less a z)), rfl⟩ ⟨fun a _ z => z, trivial⟩ (fun p z => by rw [hds] at z; exact (R.new p z).2) w1
    obtain ⟨u0, eu, qu⟩ := repUs_one q3
    subst eu
    cases ro <;> try exact k3.elim
    rename_i z
    cases z <;> try exact k3.elim
    rename_i p
    have k3 : putA c.P (.u (.ref p)) fi u0 G1 fun G2 => Qm ρ3 G2 := k3
    simp only [putA] at k3
    cases hg : G1 p with
    | none => rw [hg] at k3; exact k3.elim
    | some o =>
      rw [hg] at k3
      cases o with
      | con u => exact k3.elim
      | ins k fs =>
        obtain ⟨⟨hl, hfd⟩, k3⟩ := k3
        obtain ⟨dx, gs, e1, h1, h2, rf⟩ := ins_at R3 hg
        have qx : x = .ref p := by simpa only [Val, RepU] using R1.val
        have lg : gs.length < 1000 := by rw [← repFs_len rf]; omega
        obtain ⟨R4, hf, pf⟩ := R3.writeG hg (o2 := .ins k (putFd fi u0 fs)) (o' := .ins (c.ca k) dx (L2.putF (c.ca.fn fi) v gs)) ⟨h1, fun q hq => by
          rcases putFd_mem hq with e | ⟨q', hq', e⟩
          · rw [e, ← C.fdc]; exact hfd
          · rw [← e]; exact h2 q' hq', dx, _, rfl, putFd_rep c.ca.inj qu rf⟩
        refine ⟨p, _, dx, gs, qx, e1, h1.1, h1.2 _ (by rw [← C.fdc]; exact hfd), lg, ?_⟩
        have hxx : Ext H0 f0 H1 (fp σ ρ3 G1) := fun a o e n => ⟨((hx.trans hx1) a o e n).1, fun z => ((hx.trans hx1) a o e n).2 (sub3 a z)⟩
        exact en σ ρ3 _ _ (fun _ _ => rfl) (hxx.upd' pf hf) R4 k3
  rw [show assign (.Attribute e1 (c.ca.fn fi) pos) X.env u = (do
    let ov ← holding [u] (eval e1 X.env)
    standAt pos.atName
    holding [u, ov] (setAttr ov (c.ca.fn fi) u)
    release [u, ov] []) from rfl]
  refine wpAny_bind (wpAny_holding (thn (ga.run pins s σ H _ I key) fun ov s1 ⟨x, H1, I1, r1, p, C0, dx, gs, ex, ea, c1, c2, c3, q⟩ => ?_))
  subst ex
  cases (show ov = Value.ref p from r1)
  exact wpAny_bind (wpAny_standAt (wpAny_bind (wpAny_holding (setattr_ok I1 ea c1 c2 c3 rv fun s3 I3 => wpAny_release ⟨σ, _, I3, q⟩))))
end
end Mp
namespace Mp
open PySem PySem.Spec PyProof.Rows L2
section
variable (c : Cx0) (Γ : Cal) (X : Cx)
/-- the end of a test -/
noncomputable def EndT (L Z : Addr → Prop) (σ : L2.St) (H : Hp) (f : Addr → Prop) (K : R → Bool → Rho → Hh → Prop) (Q : Bool → Hp → Prop) : Prop :=
  ∀ r u k ρ' G' H' Z', (∀ a, Z a → Z' a) → Ext H f H' (fp σ ρ' G') → Rep c.ca X.K L Z' σ H' ρ' G' → vw r ρ' G' = some u → truth u = some k → K r k ρ' G' → Q k H'
noncomputable def tB' (m : E) : TT := fun σ H Q => ∃ L Z ρ G Xm K, Rep c.ca X.K L Z σ H ρ G ∧ (∀ a, L a → Z a) ∧ wpE c.P Γ m ρ G Xm (fun r ρ1 G1 => tstK r ρ1 G1 fun k => K r k ρ1 G1) ∧ Tk c X L Z H (fp σ ρ G) Xm ∧ EndT c X L Z σ H (fp σ ρ G) K Q
noncomputable def tBA (es : Es) : TT := fun σ H Q => ∃ L Z ρ G Xm K, Rep c.ca X.K L Z σ H ρ G ∧ (∀ a, L a → Z a) ∧ wpAnd c.P Γ es ρ G Xm (fun r ρ1 G1 => tstK r ρ1 G1 fun k => K r k ρ1 G1) ∧ Tk c X L Z H (fp σ ρ G) Xm ∧ EndT c X L Z σ H (fp σ ρ G) K Q
noncomputable def tBO (es : Es) : TT := fun σ H Q => ∃ L Z ρ G Xm K, Rep c.ca X.K L Z σ H ρ G ∧ (∀ a, L a → Z a) ∧ wpOr c.P Γ es ρ G Xm (fun r ρ1 G1 => tstK r ρ1 G1 fun k => K r k ρ1 G1) ∧ Tk c X L Z H (fp σ ρ G) Xm ∧ EndT c X L Z σ H (fp σ ρ G) K Q
noncomputable def tAE (es : Es) : TE := fun σ H Q => ∃ L Z ρ G Xm Qm, Rep c.ca X.K L Z σ H ρ G ∧ (∀ a, L a → Z a) ∧ wpAnd c.P Γ es ρ G Xm Qm ∧ Tk c X L Z H (fp σ ρ G) Xm ∧ EndE c X L Z σ H (fp σ ρ G) Qm Q
noncomputable def tOE (es : Es) : TE := fun σ H Q => ∃ L Z ρ G Xm Qm, Rep c.ca X.K L Z σ H ρ G ∧ (∀ a, L a → Z a) ∧ wpOr c.P Γ es ρ G Xm Qm ∧ Tk c X L Z H (fp σ ρ G) Xm ∧ EndE c X L Z σ H (fp σ ρ G) Qm Q
end
theorem iteT {A B : Prop} (h : A) : if true = true then A else B := by rw [if_pos rfl]; exact h
theorem iteF {A B : Prop} (h : B) : if false = true then A else B := by rw [if_neg Bool.false_ne_true]; exact h
theorem PW.imp {X : Cx} {e : Expr} {t t' : TT} (h : PW X e t) (i : ∀ σ H Q, t' σ H Q → t σ H Q) : PW X e t' := ⟨fun wh pins s σ H Q I q => h.run wh pins s σ H Q I (i σ H Q q)⟩
section
variable {c : Cx0} {n : Nat} {Γ : Cal} {X : Cx} {K : Ck} {L Z Z' : Addr → Prop} {σ : L2.St} {H H1 H2 : Hp} {ρ ρ1 ρ2 : Rho} {G G1 G2 : Hh} {f ex : Addr → Prop} {x y v : V} {u w : U} {Qm : Kc} {a b d : E} {e1 e2 e3 tg : Expr} {pos p2 : Pos} {r : R} {Kt : R → Bool → Rho → Hh → Prop} {Q : Bool → Hp → Prop}
theorem EndT.toB (en : EndT c X L Z σ H f Kt Q) : EndB c X L Z σ H f (fun r ρ1 G1 => tstK r ρ1 G1 fun k => Kt r k ρ1 G1) (fun x H' => ∃ k, x = .bl k ∧ Q k H') := fun k ρ' G' H' Z' hz hx R q => by
  obtain ⟨u, k2, e1, e2, q⟩ := tstK_out q
  cases e1
  cases e2
  exact ⟨k, rfl, en (.u (.bl k)) (.bl k) k ρ' G' H' Z' hz hx R rfl rfl q⟩
theorem EndT.imp {K2 : R → Bool → Rho → Hh → Prop} {H2 : Hp} {f2 Z2 : Addr → Prop} (h : EndT c X L Z σ H f Kt Q) (hx : Ext H f H2 f2) (hz : ∀ a, Z a → Z2 a) (hq : ∀ r k ρ G, K2 r k ρ G → Kt r k ρ G) : EndT c X L Z2 σ H2 f2 K2 Q :=
  fun r u k ρ' G' H' Z' z e R e1 e2 q => h r u k ρ' G' H' Z' (fun a y => z a (hz a y)) (hx.trans e) R e1 e2 (hq _ _ _ _ q)
theorem t_cmp {op : COp} (hu : X.A.units + 64 < cLine) (ha : PE X e1 (tE c Γ X a)) (hb : PE X e2 (tE c Γ X b)) (hm : behindInMarks op.op e2 = false) : PT X (.Compare e1 [op.op] [e2] pos) (tB' c Γ X (.cmp op a b)) :=
  PT.imp (pt_cmpR (op_cmp hu op) ha hb hm) fun σ H Q ⟨L, Z, ρ, G, Xm, Kt, R, hL, w, tk, en⟩ => cmp_go R hL w tk (EndT.toB en)
theorem t_chain {o1 o2 : COp} (hu : X.A.units + 64 < cLine) (ga : PE X e1 (tE c Γ X a)) (gb : PE X e2 (tE c Γ X b)) (hd : PE X e3 (tE c Γ X d)) (hm : lastMarks [o1.op, o2.op] [e2, e3] = false) :
    PT X (.Compare e1 [o1.op, o2.op] [e2, e3] pos) (tB' c Γ X (.chain o1 o2 a b d)) :=
  PT.imp (pt_chain (op_cmp hu o1) (op_cmp hu o2) ga gb hd hm) fun σ H Q ⟨L, Z, ρ, G, Xm, Kt, R, hL, w, tk, en⟩ => chain_go R hL w tk (EndT.toB en)
theorem t_isN {neg : Bool} {j : Nat} {p2 : Pos} (ga : PE X e1 (tE c Γ X a)) : PT X (.Compare e1 [if neg then .IsNot else .Is] [.Constant .none j p2] pos) (tB' c Γ X (.isN a neg)) :=
  PT.imp (pt_cmpR (op_isNn neg) ga pe_non rfl) fun σ H Q ⟨L, Z, ρ, G, Xm, Kt, R, hL, w, tk, en⟩ => isN_go R hL w tk (EndT.toB en)
theorem t_isB {k neg : Bool} {j : Nat} {p2 : Pos} (ga : PE X e1 (tE c Γ X a)) : PT X (.Compare e1 [if neg then .IsNot else .Is] [.Constant (.bool k) j p2] pos) (tB' c Γ X (.isB a k neg)) :=
  PT.imp (pt_cmpR (op_isBb neg) ga pe_bl rfl) fun σ H Q ⟨L, Z, ρ, G, Xm, Kt, R, hL, w, tk, en⟩ => isB_go R hL w tk (EndT.toB en)
theorem t_kin {K : Ck} (C : Ctx c n X K) {d : Nat} {x : Str} {neg : Bool} {p1 : Pos} (hg : K.glob x = true) (hx : K.kdn.lookup d = some x) (hb : PE X e1 (tE c Γ X b)) : PT X (.Compare e1 [if neg then .NotIn else .In] [.Name x p1] pos) (tB' c Γ X (.kin d b neg)) := by
  obtain ⟨a, es, n', hm, D, kr⟩ := C.kdc d x hx
  obtain ⟨g1, g2, _⟩ := gl_of C hg
  cases neg with
  | false => exact PT.imp (pt_cmpR (op_in_kd D) hb (pe_glob g1 hm (v := .ref a) rfl g2) rfl) fun σ H Q ⟨L, Z, ρ, G, Xm, Kt, R, hL, w, tk, en⟩ => kin_go kr R hL w tk (EndT.toB en) id fun _ => rfl
  | true => exact PT.imp (pt_cmpR (op_notIn_kd D) hb (pe_glob g1 hm (v := .ref a) rfl g2) rfl) fun σ H Q ⟨L, Z, ρ, G, Xm, Kt, R, hL, w, tk, en⟩ => kin_go kr R hL w tk (EndT.toB en) (fun r => !r) fun _ => rfl
theorem t_gen {m : E} (ga : PE X e1 (tE c Γ X m)) (he : ∀ whole, isTrue e1 X.env whole = (do let v ← whole; standAt e1.pos; holding [v] (truthy v))) : PT X e1 (tB' c Γ X m) := by
  refine PT.imp (pt_truth ga he) fun σ H Q ⟨L, Z, ρ, G, Xm, Kt, R, hL, w, tk, en⟩ => ?_
  refine ⟨L, Z, ρ, G, Xm, _, R, hL, w, tk, fun r ρ1 G1 x H1 hx R1 w1 => ?_⟩
  obtain ⟨u, k, e1, e2, w1⟩ := tstK_out w1
  exact ⟨k, tru_of (vw_ok R1.rep R1.val e1) e2, en r u k ρ1 G1 H1 _ (fun a => .inl) hx R1.rep e1 e2 w1⟩
theorem t_not (ha : PT X e1 (tB' c Γ X a)) : PT X (.UnaryOp .Not e1 pos) (tB' c Γ X (.not_ a)) := by
  refine PT.imp (pt_not ha) fun σ H Q ⟨L, Z, ρ, G, Xm, Kt, R, hL, w, tk, en⟩ => ?_
  simp only [wpE] at w
  refine ⟨L, Z, ρ, G, Xm, fun ra b ρ1 G1 => Kt (.u (.bl (!b))) (!b) ρ1 G1, R, hL, w, tk, fun r u k ρ1 G1 H1 Z1 hz hx R1 e1 e2 q => ?_⟩
  exact en (.u (.bl (!k))) (.bl (!k)) (!k) ρ1 G1 H1 Z1 hz hx R1 rfl rfl q
theorem vw_bvl {k : Bool} (e : vw r ρ G = some u) (e2 : truth u = some k) : bvl r k = r := by
  cases r with
  | u y =>
    cases y <;> try rfl
    cases e
    cases e2
    rfl
  | tmp y => rfl
  | lv i => rfl
  | exc k => rfl
theorem tst_bvl {k : Bool} {K0 : Bool → Prop} (e : vw r ρ G = some u) (e2 : truth u = some k) (h : tstK (bvl r k) ρ G K0) : K0 k := by
  rw [vw_bvl e e2] at h
  obtain ⟨u2, k2, e3, e4, h⟩ := tstK_out h
  rw [e] at e3
  cases e3
  rw [e2] at e4
  cases e4
  exact h
theorem t_and {es : Es} {rest : List Expr} (ga : PT X e1 (tB' c Γ X a)) (gb : PW X (.BoolOp .And (e2 :: rest) pos) (tBA c Γ X es)) : PW X (.BoolOp .And (e1 :: e2 :: rest) pos) (tB' c Γ X (.and_ a es)) := by
  refine PW.imp (pw_and ga gb) fun σ H Q ⟨L, Z, ρ, G, Xm, Kt, R, hL, w, tk, en⟩ => ?_
  simp only [wpE] at w
  refine ⟨L, Z, ρ, G, Xm, fun ra b ρ1 G1 => Br b (wpAnd c.P Γ es ρ1 G1 Xm fun r ρ1 G1 => tstK r ρ1 G1 fun k => Kt r k ρ1 G1) (tstK (bvl ra false) ρ1 G1 fun k => Kt (bvl ra false) k ρ1 G1), R, hL, w, tk, fun r u k ρ1 G1 H1 Z1 hz hx R1 e1 e2 q => ?_⟩
  cases k with
  | true =>
    refine iteT ?_
    exact ⟨L, Z1, ρ1, G1, Xm, Kt, R1, fun a z => hz a (hL a z), q, tk.go hx hz, en.imp hx hz fun _ _ _ _ z => z⟩
  | false =>
    refine iteF ?_
    have q2 := tst_bvl e1 e2 q
    rw [vw_bvl e1 e2] at q2
    exact en r u false ρ1 G1 H1 Z1 hz hx R1 e1 e2 q2
theorem t_or {es : Es} {rest : List Expr} (ga : PT X e1 (tB' c Γ X a)) (gb : PW X (.BoolOp .Or (e2 :: rest) pos) (tBO c Γ X es)) : PW X (.BoolOp .Or (e1 :: e2 :: rest) pos) (tB' c Γ X (.or_ a es)) := by
  refine PW.imp (pw_or ga gb) fun σ H Q ⟨L, Z, ρ, G, Xm, Kt, R, hL, w, tk, en⟩ => ?_
  simp only [wpE] at w
  refine ⟨L, Z, ρ, G, Xm, fun ra b ρ1 G1 => Br b (tstK (bvl ra true) ρ1 G1 fun k => Kt (bvl ra true) k ρ1 G1) (wpOr c.P Γ es ρ1 G1 Xm fun r ρ1 G1 => tstK r ρ1 G1 fun k => Kt r k ρ1 G1), R, hL, w, tk, fun r u k ρ1 G1 H1 Z1 hz hx R1 e1 e2 q => ?_⟩
  cases k with
  | false =>
    refine iteF ?_
    exact ⟨L, Z1, ρ1, G1, Xm, Kt, R1, fun a z => hz a (hL a z), q, tk.go hx hz, en.imp hx hz fun _ _ _ _ z => z⟩
  | true =>
    refine iteT ?_
    have q2 := tst_bvl e1 e2 q
    rw [vw_bvl e1 e2] at q2
    exact en r u true ρ1 G1 H1 Z1 hz hx R1 e1 e2 q2
theorem ta_one (ga : PT X e1 (tB' c Γ X a)) : PW X (.BoolOp .And [e1] pos) (tBA c Γ X (.cons a .nil)) := PW.imp (pw_and1 ga) fun σ H Q ⟨L, Z, ρ, G, Xm, Kt, R, hL, w, tk, en⟩ => ⟨L, Z, ρ, G, Xm, Kt, R, hL, w, tk, en⟩
theorem to_one (ga : PT X e1 (tB' c Γ X a)) : PW X (.BoolOp .Or [e1] pos) (tBO c Γ X (.cons a .nil)) := PW.imp (pw_or1 ga) fun σ H Q ⟨L, Z, ρ, G, Xm, Kt, R, hL, w, tk, en⟩ => ⟨L, Z, ρ, G, Xm, Kt, R, hL, w, tk, en⟩
theorem ta_more {es : Es} {rest : List Expr} (ga : PT X e1 (tB' c Γ X a)) (gb : PW X (.BoolOp .And (e2 :: rest) pos) (tBA c Γ X (.cons b es))) : PW X (.BoolOp .And (e1 :: e2 :: rest) pos) (tBA c Γ X (.cons a (.cons b es))) :=
  PW.imp (t_and ga gb) fun σ H Q ⟨L, Z, ρ, G, Xm, Kt, R, hL, w, tk, en⟩ => ⟨L, Z, ρ, G, Xm, Kt, R, hL, by simp only [wpE]; exact w, tk, en⟩
theorem to_more {es : Es} {rest : List Expr} (ga : PT X e1 (tB' c Γ X a)) (gb : PW X (.BoolOp .Or (e2 :: rest) pos) (tBO c Γ X (.cons b es))) : PW X (.BoolOp .Or (e1 :: e2 :: rest) pos) (tBO c Γ X (.cons a (.cons b es))) :=
  PW.imp (t_or ga gb) fun σ H Q ⟨L, Z, ρ, G, Xm, Kt, R, hL, w, tk, en⟩ => ⟨L, Z, ρ, G, Xm, Kt, R, hL, by simp only [wpE]; exact w, tk, en⟩
theorem ea_one (ga : PE X e1 (tE c Γ X a)) : PE X (.BoolOp .And [e1] pos) (tAE c Γ X (.cons a .nil)) := PE.imp (pe_one ga) fun σ H Q ⟨L, Z, ρ, G, Xm, Kt, R, hL, w, tk, en⟩ => ⟨L, Z, ρ, G, Xm, Kt, R, hL, w, tk, en⟩
theorem eo_one (ga : PE X e1 (tE c Γ X a)) : PE X (.BoolOp .Or [e1] pos) (tOE c Γ X (.cons a .nil)) := PE.imp (pe_one ga) fun σ H Q ⟨L, Z, ρ, G, Xm, Kt, R, hL, w, tk, en⟩ => ⟨L, Z, ρ, G, Xm, Kt, R, hL, w, tk, en⟩
theorem ea_more {es : Es} {rest : List Expr} (ga : PE X e1 (tE c Γ X a)) (gb : PE X (.BoolOp .And (e2 :: rest) pos) (tAE c Γ X (.cons b es))) : PE X (.BoolOp .And (e1 :: e2 :: rest) pos) (tAE c Γ X (.cons a (.cons b es))) :=
  PE.imp (e_and ga gb) fun σ H Q ⟨L, Z, ρ, G, Xm, Kt, R, hL, w, tk, en⟩ => ⟨L, Z, ρ, G, Xm, Kt, R, hL, by simp only [wpE]; exact w, tk, en⟩
theorem eo_more {es : Es} {rest : List Expr} (ga : PE X e1 (tE c Γ X a)) (gb : PE X (.BoolOp .Or (e2 :: rest) pos) (tOE c Γ X (.cons b es))) : PE X (.BoolOp .Or (e1 :: e2 :: rest) pos) (tOE c Γ X (.cons a (.cons b es))) :=
  PE.imp (e_or ga gb) fun σ H Q ⟨L, Z, ρ, G, Xm, Kt, R, hL, w, tk, en⟩ => ⟨L, Z, ρ, G, Xm, Kt, R, hL, by simp only [wpE]; exact w, tk, en⟩
end
section
variable (c : Cx0) (Γ : Cal) (X : Cx)
structure EndS (L Z : Addr → Prop) (H : Hp) (f : Addr → Prop) (nx : Nx) (rt : Kc) (ct : Nx) (D : Ends) : Prop where
  nx : ∀ σ' H' ρ' G', Ext H f H' (fp σ' ρ' G') → Rep c.ca X.K L Z σ' H' ρ' G' → nx ρ' G' → D.nx σ' H'
  rt : ∀ σ' r ρ' G' v H', Ext H f H' (fp σ' ρ' G') → RepR c.ca X.K L Z σ' H f H' ρ' G' r v → rt r ρ' G' → D.rt v H'
  ct : ∀ σ' H' ρ' G', Ext H f H' (fp σ' ρ' G') → Rep c.ca X.K L Z σ' H' ρ' G' → ct ρ' G' → D.ct σ' H'
noncomputable def tS (m : S) : TS := fun D σ H => ∃ L Z ρ G nx rt ct Xm, Rep c.ca X.K L Z σ H ρ G ∧ (∀ a, L a → Z a) ∧ wpS c.P Γ m ρ G nx rt ct Xm ∧ Tk c X L Z H (fp σ ρ G) Xm ∧ EndS c X L Z H (fp σ ρ G) nx rt ct D
noncomputable def tSs (m : Ss) : TS := fun D σ H => ∃ L Z ρ G nx rt ct Xm, Rep c.ca X.K L Z σ H ρ G ∧ (∀ a, L a → Z a) ∧ wpSs c.P Γ m ρ G nx rt ct Xm ∧ Tk c X L Z H (fp σ ρ G) Xm ∧ EndS c X L Z H (fp σ ρ G) nx rt ct D
end
section
variable {c : Cx0} {n : Nat} {Γ : Cal} {X : Cx} {K : Ck} {L Z Z' : Addr → Prop} {σ : L2.St} {H H1 H2 : Hp} {ρ ρ1 ρ2 : Rho} {G G1 G2 : Hh} {f f2 ex : Addr → Prop} {x y v : V} {u w : U} {a b d : E} {e1 e2 e3 tg : Expr} {pos p2 : Pos} {r : R} {nx ct : Nx} {rt : Kc} {D : Ends} {st : Stmt} {sts st2 : List Stmt} {m : S} {ms ms2 : Ss}
theorem EndS.go (h : EndS c X L Z H f nx rt ct D) (hx : Ext H f H2 f2) : EndS c X L Z H2 f2 nx rt ct D :=
  ⟨fun σ' H' ρ' G' e R k => h.nx σ' H' ρ' G' (hx.trans e) R k, fun σ' r ρ' G' v H' e R k => h.rt σ' r ρ' G' v H' (hx.trans e) ⟨R.rep, R.val, fun p z => ⟨newback hx (R.new p z).1, (R.new p z).2⟩⟩ k, fun σ' H' ρ' G' e R k => h.ct σ' H' ρ' G' (hx.trans e) R k⟩
theorem ss_nil : PSs X [] (tSs c Γ X .nil) := by
  refine PSs.imp pss_nil fun D σ H ⟨L, Z, ρ, G, nx, rt, ct, Xm, R, hL, w, tk, en⟩ => ?_
  simp only [wpSs] at w
  exact en.nx σ H ρ G (Ext.refl _ _) R w
theorem ss_cons (g1 : PS X st (tS c Γ X m)) (g2 : PSs X sts (tSs c Γ X ms)) : PSs X (st :: sts) (tSs c Γ X (.cons m ms)) := by
  refine PSs.imp (pss_cons g1 g2) fun D σ H ⟨L, Z, ρ, G, nx, rt, ct, Xm, R, hL, w, tk, en⟩ => ?_
  simp only [wpSs] at w
  exact ⟨L, Z, ρ, G, _, rt, ct, Xm, R, hL, w, tk, fun σ' H' ρ' G' e R2 k => ⟨L, Z, ρ', G', nx, rt, ct, Xm, R2, hL, k, tk.go e fun _ z => z, en.go e⟩, en.rt, en.ct⟩
theorem s_ex (ga : PE X e1 (tE c Γ X a)) (hs : swapsWith e1 none pos.line X.env = pure false) : PS X (.Expr e1 pos) (tS c Γ X (.ex a)) := by
  refine PS.imp (ps_expr ga hs) fun D σ H ⟨L, Z, ρ, G, nx, rt, ct, Xm, R, hL, w, tk, en⟩ => ?_
  simp only [wpS] at w
  exact ⟨L, Z, ρ, G, Xm, _, R, hL, w, tk, fun r ρ1 G1 v H1 hx R1 w1 => en.nx σ H1 ρ1 G1 hx (R1.rep.less fun a => .inl) w1⟩
theorem asg_go {te : TE} {t : T} {g : TG} (R : Rep c.ca X.K L Z σ H ρ G) (hL : ∀ a, L a → Z a) {Xm : Xc} (w : wpS c.P Γ (.asg t a) ρ G nx rt ct Xm) (tk : Tk c X L Z H (fp σ ρ G) Xm) (en : EndS c X L Z H (fp σ ρ G) nx rt ct D)
    (hi : ∀ Q, tE c Γ X a σ H Q → te σ H Q) (hg : ∀ v H1, tT c Γ X t v σ H1 D.nx → g v σ H1 D.nx) : tAsg te g D σ H := by
  simp only [wpS] at w
  refine hi _ ⟨L, Z, ρ, G, Xm, _, R, hL, w, tk, fun r ρ1 G1 v H1 hx R1 w1 => hg v H1 ?_⟩
  exact ⟨L, Z, H, fp σ ρ G, ρ1, G1, r, Xm, nx, R1, hL, hx, w1, tk, fun σ' ρ' G' H' _ e R2 k => en.nx σ' H' ρ' G' e R2 k⟩
theorem s_asg {t : T} (ga : PE X e1 (tE c Γ X a)) (gt : PG X tg (tT c Γ X t)) (hs : swapsWithSole [tg] e1 pos.line X.env = pure false) (hw : swappedStores [tg] e1 X.env = pure none) (h1 : (assignEach [tg] X.env).map (·.2) = [assign tg X.env]) : PS X (.Assign [tg] e1 pos) (tS c Γ X (.asg t a)) :=
  PS.imp (ps_asg ga gt hs hw h1) fun D σ H ⟨L, Z, ρ, G, nx, rt, ct, Xm, R, hL, w, tk, en⟩ => asg_go R hL w tk en (fun _ h => h) fun _ _ h => h
theorem s_ret (ga : PE X e1 (tE c Γ X a)) : PS X (.Return (some e1) pos) (tS c Γ X (.ret a)) := by
  refine PS.imp (ps_ret ga) fun D σ H ⟨L, Z, ρ, G, nx, rt, ct, Xm, R, hL, w, tk, en⟩ => ?_
  simp only [wpS] at w
  exact ⟨L, Z, ρ, G, Xm, _, R, hL, w, tk, fun r ρ1 G1 v H1 hx R1 w1 => en.rt σ r ρ1 G1 v H1 hx R1 w1⟩
theorem s_retn : PS X (.Return none pos) (tS c Γ X .retn) := by
  refine PS.imp ps_retN fun D σ H ⟨L, Z, ρ, G, nx, rt, ct, Xm, R, hL, w, tk, en⟩ => ?_
  simp only [wpS] at w
  refine en.rt σ (.u .non) ρ G .non H (Ext.refl _ _) ⟨?_, ?_, fun p z => z.elim⟩ w
  · rw [hd_u, or2_false]; exact R
  · show RepU _ _ _ _ _
    simp only [RepU]
theorem s_pass : PS X (.Pass pos) (tS c Γ X .pass) := by
  refine PS.imp ps_pass fun D σ H ⟨L, Z, ρ, G, nx, rt, ct, Xm, R, hL, w, tk, en⟩ => ?_
  simp only [wpS] at w
  exact en.nx σ H ρ G (Ext.refl _ _) R w
theorem s_cont : PS X (.Continue pos) (tS c Γ X .cont) := by
  refine PS.imp ps_continue fun D σ H ⟨L, Z, ρ, G, nx, rt, ct, Xm, R, hL, w, tk, en⟩ => ?_
  simp only [wpS] at w
  exact en.ct σ H ρ G (Ext.refl _ _) R w
theorem s_ite (gc : PT X e1 (tB' c Γ X a)) (g1 : PSs X sts (tSs c Γ X ms)) (g2 : PSs X st2 (tSs c Γ X ms2)) : PS X (.If e1 sts st2 pos) (tS c Γ X (.ite a ms ms2)) := by
  refine PS.imp (ps_if gc g1 g2) fun D σ H ⟨L, Z, ρ, G, nx, rt, ct, Xm, R, hL, w, tk, en⟩ => ?_
  simp only [wpS] at w
  refine ⟨L, Z, ρ, G, Xm, fun r k ρ1 G1 => Br k (wpSs c.P Γ ms ρ1 G1 nx rt ct Xm) (wpSs c.P Γ ms2 ρ1 G1 nx rt ct Xm), R, hL, w, tk, fun r u k ρ1 G1 H1 Z1 hz hx R1 e1 e2 q => ?_⟩
  cases k with
  | true =>
    refine iteT ?_
    exact ⟨L, Z, ρ1, G1, nx, rt, ct, Xm, R1.less hz, hL, q, tk.go hx fun _ z => z, en.go hx⟩
  | false =>
    refine iteF ?_
    exact ⟨L, Z, ρ1, G1, nx, rt, ct, Xm, R1.less hz, hL, q, tk.go hx fun _ z => z, en.go hx⟩
/-- what is known shrinks -/
theorem fp_sub {G' : Hh} (h : Sub G' G) : ∀ a, fp σ ρ G' a → fp σ ρ G a := fun a z => z.imp (fun ⟨o, e⟩ => ⟨o, h a o e⟩) id
theorem Rep.sub {ca : Cs} {Kf : PySem.W.Frag} {G' : Hh} (R : Rep ca Kf L Z σ H ρ G) (h : Sub G' G) : Rep ca Kf L Z σ H ρ G' := by
  have hx : Ext H (Or2 (fp σ ρ G) Z) H (Or2 (fp σ ρ G') Z) := Ext.sub fun a z => z.elim (fun z => .inl (fp_sub h a z)) .inr
  refine ⟨R.len, fun i sv e => ?_, R.own, fun i u a e1 e2 => ?_, fun a o e => ?_, fun a z => ⟨fun q => (R.zd a z).1 (fp_sub h a q), (R.zd a z).2⟩⟩
  · obtain ⟨v, e1, q⟩ := R.slot i sv e
    exact ⟨v, e1, q.ext hx (fun a o x n => ⟨x, fun z => n (fp_sub h a z)⟩) fun _ _ _ _ _ e => e⟩
  · have := R.ownG i u a e1 e2
    cases e : G' a with
    | none => rfl
    | some o => rw [h a o e] at this; cases this
  · obtain ⟨ho, e1, q⟩ := R.heap a o (h a o e)
    exact ⟨ho, e1, q.ext hx⟩
theorem Ext.subG {G' : Hh} (hx : Ext H f H2 (fp σ ρ G)) (h : Sub G' G) : Ext H f H2 (fp σ ρ G') := fun a o e n => ⟨(hx a o e n).1, fun z => (hx a o e n).2 (fp_sub h a z)⟩
theorem s_whl (hp : PassesOwn (model X.prog X.w) X.A X.env X.xe) (gc : PT X e1 (tB' c Γ X a)) (g1 : PSs X sts (tSs c Γ X ms)) : PS X (.While e1 sts [] pos) (tS c Γ X (.whl a ms)) := by
  refine PS.imp (ps_while hp gc g1) fun D σ H ⟨L, Z, ρ, G, nx, rt, ct, Xm, R, hL, w, tk, en⟩ => ?_
  simp only [wpS] at w
  obtain ⟨n0, w⟩ := w
  refine ⟨fun n σ' H' => ∃ ρ' G', Ext H (fp σ ρ G) H' (fp σ' ρ' G') ∧ Rep c.ca X.K L Z σ' H' ρ' G' ∧ whlN (fun ρ1 G1 K => wpE c.P Γ a ρ1 G1 Xm fun r ρ2 G2 => tstK r ρ2 G2 fun k => K k ρ2 G2) (fun ρ1 G1 K => wpSs c.P Γ ms ρ1 G1 K rt K Xm) n ρ' G' nx, ⟨n0, ρ, G, Ext.refl _ _, R, w⟩, ?_⟩
  rintro n σ1 H1 ⟨ρ1, G1, hx1, R1, w1⟩
  cases n with
  | zero => exact w1.elim
  | succ n =>
    simp only [whlN] at w1
    refine ⟨L, Z, ρ1, G1, Xm, fun r k ρ2 G2 => Br k (wpSs c.P Γ ms ρ2 G2 (fun ρ2 G2 => ∃ G3, Sub G3 G2 ∧ whlN _ _ n ρ2 G3 nx) rt (fun ρ2 G2 => ∃ G3, Sub G3 G2 ∧ whlN _ _ n ρ2 G3 nx) Xm) (nx ρ2 G2), R1, hL, w1, tk.go hx1 fun _ z => z, fun r u k ρ2 G2 H2 Z2 hz hx2 R2 e1 e2 q => ?_⟩
    have hxx := hx1.trans hx2
    cases k with
    | false =>
      refine iteF ?_
      exact en.nx σ1 H2 ρ2 G2 hxx (R2.less hz) q
    | true =>
      refine iteT ?_
      have turn : ∀ σ' H' ρ' G', Ext H2 (fp σ1 ρ2 G2) H' (fp σ' ρ' G') → Rep c.ca X.K L Z σ' H' ρ' G' → (∃ G3, Sub G3 G' ∧ whlN (fun ρ1 G1 K => wpE c.P Γ a ρ1 G1 Xm fun r ρ2 G2 => tstK r ρ2 G2 fun k => K k ρ2 G2) (fun ρ1 G1 K => wpSs c.P Γ ms ρ1 G1 K rt K Xm) n ρ' G3 nx) →
          ∃ m', m' < n + 1 ∧ ∃ ρ' G', Ext H (fp σ ρ G) H' (fp σ' ρ' G') ∧ Rep c.ca X.K L Z σ' H' ρ' G' ∧ whlN (fun ρ1 G1 K => wpE c.P Γ a ρ1 G1 Xm fun r ρ2 G2 => tstK r ρ2 G2 fun k => K k ρ2 G2) (fun ρ1 G1 K => wpSs c.P Γ ms ρ1 G1 K rt K Xm) m' ρ' G' nx := fun σ' H' ρ' G' hx3 R3 ⟨G3, hs, w3⟩ =>
        ⟨n, Nat.lt_succ_self _, ρ', G3, (hxx.trans hx3).subG hs, R3.sub hs, w3⟩
      refine ⟨_, fun σ' H' h => h, L, Z, ρ2, G2, _, rt, _, Xm, R2.less hz, hL, q, tk.go hxx fun _ z => z, ⟨turn, ?_, turn⟩⟩
      exact (en.go hxx).rt
theorem s_for {t : T} {it : It} (hp : PassesOwn (model X.prog X.w) X.A X.env X.xe) (hc : X.calm = true) (gi : PI X tg e1 (tI c Γ X it)) (gt : PG X tg (tT c Γ X t)) (g1 : PSs X sts (tSs c Γ X ms)) (hs : ∀ x, foldedSetIterable e1 X.env x = pure x) : PS X (.For tg e1 sts [] pos) (tS c Γ X (.for_ t it ms)) := by
  refine PS.imp (ps_for hp hc gi gt g1 hs) fun D σ H ⟨L, Z, ρ, G, nx, rt, ct, Xm, R, hL, w, tk, en⟩ => ?_
  simp only [wpS] at w
  refine ⟨L, Z, ρ, G, Xm, _, R, hL, w, tk, fun src ρ1 G1 J H1 Z1 hz hx1 R1 ok w1 => ?_⟩
  -- the loop, for items us that stand as long as S
  have core : ∀ (us : List U) (S : Hp → (Addr → Prop) → Prop) (ck : Rho → Hh → Prop) (ρ0 : Rho), Wk X.K J us S → Ext H (fp σ ρ G) H1 (fp σ ρ0 G1) → Rep c.ca X.K L Z1 σ H1 ρ0 G1 →
      (∀ σ2 H2 ρ2 G2, Ext H1 (fp σ ρ0 G1) H2 (fp σ2 ρ2 G2) → Rep c.ca X.K L Z1 σ2 H2 ρ2 G2 → ck ρ2 G2 → S H2 (Or2 (fp σ2 ρ2 G2) Z1)) → ck ρ0 G1 →
      forI ck (fun x ρ2 G2 K => asgT c.P Γ t (.u x) ρ2 G2 Xm fun ρ3 G3 => wpSs c.P Γ ms ρ3 G3 K rt K Xm) us ρ0 G1 nx →
      ∃ W : Nat → Nat → L2.St → Hp → Prop, (∃ m, W 0 m σ H1) ∧ ∀ i m σ H, W i m σ H →
        (J.stop i H ∧ D.nx σ H) ∨ (J.go i H ∧ ∃ N : L2.St → Hp → Prop, (∀ σ' H', N σ' H' → ∃ m', m' < m ∧ W (i + 1) m' σ' H') ∧ ∀ x H', J.yld i H x H' → tT c Γ X t x σ H' fun σ2 H2 => tSs c Γ X ms { D with nx := N, ct := N, bk := D.nx } σ2 H2) := fun us S ck ρ0 wk hx0 R0 hS hck w2 => by
    refine ⟨fun i m σ2 H2 => m = us.length - i ∧ i ≤ us.length ∧ ∃ ρ2 G2, Ext H1 (fp σ ρ0 G1) H2 (fp σ2 ρ2 G2) ∧ Rep c.ca X.K L Z1 σ2 H2 ρ2 G2 ∧ ck ρ2 G2 ∧ forI ck (fun x ρ2 G2 K => asgT c.P Γ t (.u x) ρ2 G2 Xm fun ρ3 G3 => wpSs c.P Γ ms ρ3 G3 K rt K Xm) (us.drop i) ρ2 G2 nx,
      ⟨us.length, by simp, Nat.zero_le _, ρ0, G1, Ext.refl _ _, R0, hck, w2⟩, ?_⟩
    rintro i m σ2 H2 ⟨rfl, hi, ρ2, G2, hx2, R2, hck2, w3⟩
    have s2 := hS σ2 H2 ρ2 G2 hx2 R2 hck2
    by_cases hlt : i < us.length
    · refine .inr ⟨wk.goes hlt s2, _, fun σ' H' h => h, fun x H3 yl => ?_⟩
      rw [List.drop_eq_getElem_cons hlt] at w3
      simp only [forI_nil, forI_cons] at w3
      obtain ⟨hk, qx⟩ := wk.yields (List.getElem?_eq_getElem hlt) s2 (fun a z => z.elim (fun z => by obtain ⟨o, e, _⟩ := R2.mut z; exact ⟨o, e⟩) fun z => (R2.zd a z).2) yl
      have hx3 : Ext H2 (fp σ2 ρ2 G2) H3 (fp σ2 ρ2 G2) := fun a o e n => ⟨hk a o e, n⟩
      have hx03 := (hx0.trans hx2).trans hx3
      refine ⟨L, Z1, H3, fp σ2 ρ2 G2, ρ2, G2, .u us[i], Xm, _, ⟨?_, ?_, fun p z => z.elim⟩, fun a z => hz a (hL a z), Ext.refl _ _, w3, tk.go hx03 hz, fun σ4 ρ4 G4 H4 _ hx4 R4 w4 => ?_⟩
      · rw [hd_u, or2_false]; exact R2.heapExt hk
      · rw [hd_u, or2_false]; exact qx
      · have hx04 := hx03.trans hx4
        have turn : ∀ σ' H' ρ' G', Ext H4 (fp σ4 ρ4 G4) H' (fp σ' ρ' G') → Rep c.ca X.K L Z1 σ' H' ρ' G' → (∃ G'', Sub G'' G' ∧ ck ρ' G'' ∧ forI ck (fun x ρ2 G2 K => asgT c.P Γ t (.u x) ρ2 G2 Xm fun ρ3 G3 => wpSs c.P Γ ms ρ3 G3 K rt K Xm) (us.drop (i + 1)) ρ' G'' nx) →
            ∃ m', m' < us.length - i ∧ m' = us.length - (i + 1) ∧ i + 1 ≤ us.length ∧ ∃ ρ2 G2, Ext H1 (fp σ ρ0 G1) H' (fp σ' ρ2 G2) ∧ Rep c.ca X.K L Z1 σ' H' ρ2 G2 ∧ ck ρ2 G2 ∧ forI ck (fun x ρ2 G2 K => asgT c.P Γ t (.u x) ρ2 G2 Xm fun ρ3 G3 => wpSs c.P Γ ms ρ3 G3 K rt K Xm) (us.drop (i + 1)) ρ2 G2 nx := fun σ' H' ρ' G' hx5 R5 ⟨G6, hs6, hck6, w6⟩ =>
          ⟨us.length - (i + 1), by omega, rfl, hlt, ρ', G6, (((hx2.trans hx3).trans hx4).trans hx5).subG hs6, R5.sub hs6, hck6, w6⟩
        refine ⟨L, Z1, ρ4, G4, _, rt, _, Xm, R4, fun a z => hz a (hL a z), w4, tk.go hx04 hz, ⟨turn, ?_, turn⟩⟩
        intro σ' r ρ' G' v H' hx5 R5 k
        exact (en.go hx04).rt σ' r ρ' G' v H' hx5 ⟨R5.rep.less (fun a z => z.elim (fun z => .inl (hz a z)) .inr), R5.val.ext (Ext.sub fun a z => z.elim .inl fun z => .inr (z.elim (fun z => .inl (hz a z)) .inr)), fun p z => ⟨(R5.new p z).1, fun q => (R5.new p z).2 (hz p q)⟩⟩ k
    · have e : i = us.length := by omega
      subst e
      rw [List.drop_length] at w3
      simp only [forI_nil, forI_cons] at w3
      exact .inl ⟨wk.stops s2, en.nx σ2 H2 ρ2 G2 (hx0.trans hx2) (R2.less hz) w3⟩
  cases src with
  | fix us =>
    obtain ⟨S, wk, st⟩ := ok
    exact core us S (fun _ _ => True) ρ1 wk hx1 R1 (fun σ2 H2 ρ2 G2 hx2 R2 _ => st H2 _ hx2) trivial w1
  | heap p cc us =>
    obtain ⟨hg, wk⟩ := ok
    refine core us _ (fun _ G' => G' p = some (.con cc)) ρ1 wk hx1 R1 (fun σ2 H2 ρ2 G2 hx2 R2 hck => ?_) hg w1
    obtain ⟨ho, e1, q⟩ := R2.heap p _ hck
    exact ⟨_, vw_ofC e1 q⟩
  | slot i cc us =>
    obtain ⟨p, hs1, hs2, nt, wk⟩ := ok
    obtain ⟨hi, w2⟩ := setK_lt w1
    obtain ⟨R2, qf, sub⟩ := R1.freeze hs1 hs2
    refine core us _ (fun _ _ => True) (ρ1.set i (some (.u cc))) wk (fun a o e n => ⟨(hx1 a o e n).1, fun z => (hx1 a o e n).2 (sub a z)⟩) R2 (fun σ3 H3 ρ3 G3 hx3 R3 _ => ?_) trivial w2
    exact ⟨c.ca.w, vw_ofU (fun a e => by
      subst e
      obtain ⟨v, e1, p2, o, _, _, q⟩ := R1.slot i _ hs1
      exact q) nt (RepU.ext hx3.keepZ _ qf)⟩
end
/-- what is read stays -/
noncomputable def RdK (H H' : Hp) : Prop := ∀ b w, (∀ o x, w ≠ .frz o x) → Rd H b w → Rd H' b w
mutual
theorem RepU.rd {Kf : PySem.W.Frag} {H H' : Hp} {ex : Addr → Prop} (hr : RdK H H') : ∀ (u : U) {v : V}, RepU Kf H ex u v → RepU Kf H' ex u v
  | .non, v, r => by simpa only [RepU] using r
  | .bl _, v, r => by simpa only [RepU] using r
  | .int _, v, r => by simpa only [RepU] using r
  | .str _, v, r => by simpa only [RepU] using r
  | .ref _, v, r => by simpa only [RepU] using r
  | .dit _ _, v, r => by simpa only [RepU] using r
  | .tup xs, v, r => by
    simp only [RepU] at r ⊢
    obtain ⟨a, vs, e, t, q⟩ := r
    refine ⟨a, vs, e, ?_, RepUs.rd hr xs q⟩
    rcases t with ⟨t, n⟩ | t
    · exact .inl ⟨hr _ _ (fun _ _ z => nomatch z) t, n⟩
    · exact .inr t
  | .lst xs, v, r => by
    simp only [RepU] at r ⊢
    obtain ⟨a, vs, e, t, q⟩ := r
    refine ⟨a, vs, e, ?_, RepUs.rd hr xs q⟩
    rcases t with ⟨t, n⟩ | t
    · exact .inl ⟨hr _ _ (fun _ _ z => nomatch z) t, n⟩
    · exact .inr t
  | .dic ks ws, v, r => by
    simp only [RepU] at r ⊢
    obtain ⟨a, kvs, e, n, t, e2, q⟩ := r
    exact ⟨a, kvs, e, n, hr _ _ (fun _ _ z => nomatch z) t, e2, RepUs.rd hr ws q⟩
theorem RepUs.rd {Kf : PySem.W.Frag} {H H' : Hp} {ex : Addr → Prop} (hr : RdK H H') : ∀ (us : List U) {vs : List V}, RepUs Kf H ex us vs → RepUs Kf H' ex us vs
  | [], vs, r => by simpa only [RepUs] using r
  | u :: us, vs, r => by
    simp only [RepUs] at r ⊢
    obtain ⟨v, q, e, r1, r2⟩ := r
    exact ⟨v, q, e, RepU.rd hr u r1, RepUs.rd hr us r2⟩
end
section
variable {c : Cx0} {n : Nat} {Γ : Cal} {X : Cx} {K : Ck} {L Z Z' : Addr → Prop} {σ : L2.St} {H H' H1 H2 : Hp} {ρ ρ1 ρ2 : Rho} {G G1 G2 : Hh} {f f2 ex : Addr → Prop} {x y v : V} {u w : U} {a b d : E} {e1 e2 e3 tg : Expr} {pos p2 : Pos} {r : R} {nx ct : Nx} {rt : Kc} {D : Ends} {st : Stmt} {sts st2 : List Stmt} {m : S} {ms ms2 : Ss} {ca : Cs} {Kf : PySem.W.Frag} {J : L2.It}
theorem RepC.rd (hr : RdK H H') {W : World} {a : Addr} {o : HO} (r : RepC Kf H ex W a u o) : RepC Kf H' ex W a u o := by
  cases u <;> simp only [RepC] at r ⊢
  · obtain ⟨vs, e, q⟩ := r
    exact ⟨vs, e, RepUs.rd hr _ q⟩
  · obtain ⟨kvs, e, e2, q⟩ := r
    exact ⟨kvs, e, e2, RepUs.rd hr _ q⟩
  · obtain ⟨xs, vs, e, n, z, nd, kr, hv, q⟩ := r
    exact ⟨xs, vs, e, n, z, nd, Paired.mapP kr fun u _ z => ⟨z.1, z.2.1, RepU.rd hr u z.2.2⟩, hv, RepUs.rd hr _ q⟩
theorem RepC.nf {W : World} {a : Addr} {o : HO} (r : RepC Kf H ex W a u o) : ∀ od x, o ≠ .frz od x := fun od x z => by
  subst z
  cases u <;> simp only [RepC] at r
  · obtain ⟨vs, e, q⟩ := r
    cases e
  · obtain ⟨kvs, e, e2, q⟩ := r
    cases e
  · obtain ⟨xs, vs, e, _⟩ := r
    cases e
theorem RepFs.rd {fn : Nat → Str} (hr : RdK H H') : ∀ {fs : List (Nat × U)} {gs : List (Str × V)}, RepFs Kf H ex fn fs gs → RepFs Kf H' ex fn fs gs
  | [], _, r => r
  | (f, x) :: fs, gs, r => by
    obtain ⟨v, q, e, r1, r2⟩ := r
    exact ⟨v, q, e, RepU.rd hr x r1, RepFs.rd hr r2⟩
theorem RepE.rd (hr : RdK H H') {a : Addr} {d : Option (Addr × Str × U)} (hk : ∀ b fs, H b = some (.xd fs) → H' b = some (.xd fs)) (r : RepE Kf H ex a d v) : RepE Kf H' ex a d v := by
  obtain ⟨e, r⟩ := r
  refine ⟨e, ?_⟩
  match d, r with
  | none, _ => trivial
  | some (dd, s, x), ⟨w, h1, h2, h3⟩ => exact ⟨w, hk dd _ h1, h2, RepU.rd hr x h3⟩
theorem RepO.rd (hr : RdK H H') {a : Addr} {o : O} {ho : HO} (r : RepO ca Kf H ex a o ho) : RepO ca Kf H' ex a o ho := by
  cases o with
  | con u => exact RepC.rd hr (show RepC Kf H ex ca.w a u ho from r)
  | ins k fs =>
    obtain ⟨h1, h2, dx, gs, e, q⟩ := r
    exact ⟨h1, h2, dx, gs, e, q.rd hr⟩
/-- something is locked, or unlocked -/
theorem Rep.rd (R : Rep ca Kf L Z σ H ρ G) (hr : RdK H H') (hk : ∀ b o, H b = some o → (fp σ ρ G b ∨ ∃ fs, o = .xd fs) → H' b = some o) (hd : ∀ b o, H b = some o → ∃ o', H' b = some o') : Rep ca Kf L Z σ H' ρ G := by
  refine ⟨R.len, fun i sv e => ?_, R.own, R.ownG, fun a o e => ?_, fun a z => ⟨(R.zd a z).1, ?_⟩⟩
  · obtain ⟨v, e1, q⟩ := R.slot i sv e
    refine ⟨v, e1, ?_⟩
    cases sv with
    | u x => exact RepU.rd hr x q
    | own x =>
      obtain ⟨a, o, e2, e3, q⟩ := q
      subst e2
      exact ⟨a, o, rfl, hk a o e3 (.inl (.inr ⟨i, x, e, e1⟩)), q.rd hr⟩
    | fz t x =>
      obtain ⟨e2, n, o, e3, q⟩ := q
      exact ⟨e2, n, o, hr _ _ q.nf e3, q.rd hr⟩
    | exc k d => exact RepE.rd hr (fun b fs e => hk b _ e (.inr ⟨fs, rfl⟩)) q
  · obtain ⟨ho, e1, q⟩ := R.heap a o e
    exact ⟨ho, hk a ho e1 (.inl (.inl ⟨o, e⟩)), q.rd hr⟩
  · obtain ⟨_, o, e⟩ := R.zd a z
    exact hd a o e
theorem rdk_lock {p : Addr} {od : Obj} {w : HO} (h : H p = some w) (hw : ∀ o x, w ≠ .frz o x) : RdK H (upd H p (.frz od w)) := fun b z hz r => by
  by_cases e : b = p
  · subst e
    refine .inr ⟨od, ?_⟩
    rcases r with r | ⟨o, r⟩
    · rw [h] at r; cases r; exact upd_same
    · rw [h] at r; cases r; exact absurd rfl (hw _ _)
  · rcases r with r | ⟨o, r⟩
    · exact .inl (by rw [upd_ne e]; exact r)
    · exact .inr ⟨o, by rw [upd_ne e]; exact r⟩
theorem rdk_unlock {p : Addr} {od : Obj} {w : HO} (h : H p = some (.frz od w)) : RdK H (upd H p w) := fun b z hz r => by
  by_cases e : b = p
  · subst e
    refine .inl ?_
    rcases r with r | ⟨o, r⟩
    · rw [h] at r; cases r; exact absurd rfl (hz _ _)
    · rw [h] at r; cases r; exact upd_same
  · rcases r with r | ⟨o, r⟩
    · exact .inl (by rw [upd_ne e]; exact r)
    · exact .inr ⟨o, by rw [upd_ne e]; exact r⟩
theorem upd_there {p : Addr} {w : HO} : ∀ b o, H b = some o → ∃ o', upd H p w b = some o' := fun b o e => by
  by_cases z : b = p
  · subst z; exact ⟨_, upd_same⟩
  · exact ⟨o, by rw [upd_ne z]; exact e⟩
theorem Rep.lock {p : Addr} {od : Obj} {kvs : List (Key × V)} (R : Rep ca Kf L Z σ H ρ G) (h : H p = some (.dK kvs)) (nf : ¬ fp σ ρ G p) : Rep ca Kf L Z σ (upd H p (.frz od (.dK kvs))) ρ G :=
  R.rd (rdk_lock h fun _ _ z => nomatch z) (fun b o e q => by
    by_cases z : b = p
    · subst z
      rcases q with q | ⟨fs, q⟩
      · exact absurd q nf
      · subst q; rw [h] at e; cases e
    · rw [upd_ne z]; exact e) upd_there
theorem Rep.nofrz {p : Addr} {od : Obj} {w : HO} (R : Rep ca Kf L Z σ H ρ G) (h : H p = some (.frz od w)) : ¬ fp σ ρ G p := fun z => by
  obtain ⟨o, e, q⟩ := R.mut z
  rw [h] at e
  cases e
  rcases q with ⟨u, q⟩ | ⟨C, dx, gs, q⟩
  · exact q.nf _ _ rfl
  · cases q
theorem Rep.unlock {p : Addr} {od : Obj} {w : HO} (R : Rep ca Kf L Z σ H ρ G) (h : H p = some (.frz od w)) : Rep ca Kf L Z σ (upd H p w) ρ G :=
  R.rd (rdk_unlock h) (fun b o e q => by
    by_cases z : b = p
    · subst z
      rcases q with q | ⟨fs, q⟩
      · exact absurd q (R.nofrz h)
      · subst q; rw [h] at e; cases e
    · rw [upd_ne z]; exact e) upd_there
theorem RepR.unlock {p : Addr} {od : Obj} {H0 : Hp} {kvs : List (Key × V)} (h0 : H0 p = some (.dK kvs)) (R : RepR ca Kf L Z σ (upd H0 p (.frz od (.dK kvs))) f H ρ G r v) (h : H p = some (.frz od (.dK kvs))) : RepR ca Kf L Z σ H0 f (upd H p (.dK kvs)) ρ G r v := by
  refine ⟨R.rep.unlock h, ?_, fun q z => ⟨?_, (R.new q z).2⟩⟩
  · have hv := R.val
    cases r with
    | u x => exact RepU.rd (rdk_unlock h) x hv
    | tmp x =>
      obtain ⟨q, o, e, e2, c⟩ := hv
      refine ⟨q, o, e, ?_, c.rd (rdk_unlock h)⟩
      rw [upd_ne (fun z => by rw [z, h] at e2; cases e2; exact c.nf _ _ rfl)]
      exact e2
    | lv i => exact hv
    | exc k => exact hv
  · rcases (R.new q z).1 with e | e
    · by_cases z2 : q = p
      · subst z2; rw [upd_same] at e; cases e
      · rw [upd_ne z2] at e; exact .inl e
    · exact .inr e
theorem EndS.lock {p : Addr} {od : Obj} {kvs : List (Key × V)} (en : EndS c X L Z H f nx rt ct D) (hp : H p = some (.dK kvs)) (nf : ¬ f p) :
    EndS c X L Z (upd H p (.frz od (.dK kvs))) f nx rt ct ⟨fun σ' H' => H' p = some (.frz od (.dK kvs)) ∧ D.nx σ' (upd H' p (.dK kvs)), fun v H' => H' p = some (.frz od (.dK kvs)) ∧ D.rt v (upd H' p (.dK kvs)), fun σ' H' => H' p = some (.frz od (.dK kvs)) ∧ D.bk σ' (upd H' p (.dK kvs)), fun σ' H' => H' p = some (.frz od (.dK kvs)) ∧ D.ct σ' (upd H' p (.dK kvs))⟩ := by
  have back : ∀ {H' : Hp} {f' : Addr → Prop}, Ext (upd H p (.frz od (.dK kvs))) f H' f' → H' p = some (.frz od (.dK kvs)) ∧ Ext H f (upd H' p (.dK kvs)) f' := fun {H' f'} hx => by
    obtain ⟨h1, h2⟩ := hx p _ upd_same nf
    refine ⟨h1, fun a o e n => ?_⟩
    by_cases z : a = p
    · subst z
      rw [hp] at e; cases e
      exact ⟨upd_same, h2⟩
    · obtain ⟨h3, h4⟩ := hx a o (by rw [upd_ne z]; exact e) n
      exact ⟨by rw [upd_ne z]; exact h3, h4⟩
  refine ⟨fun σ' H' ρ' G' hx R k => ?_, fun σ' r ρ' G' v H' hx R k => ?_, fun σ' H' ρ' G' hx R k => ?_⟩
  · obtain ⟨h1, h2⟩ := back hx
    exact ⟨h1, en.nx σ' _ ρ' G' h2 (R.unlock h1) k⟩
  · obtain ⟨h1, h2⟩ := back hx
    exact ⟨h1, en.rt σ' r ρ' G' v _ h2 (R.unlock hp h1) k⟩
  · obtain ⟨h1, h2⟩ := back hx
    exact ⟨h1, en.ct σ' _ ρ' G' h2 (R.unlock h1) k⟩
/-- the turns of a loop -/
theorem for_core {t : T} {us : List U} {S : Hp → (Addr → Prop) → Prop} {ck : Rho → Hh → Prop} {Xm : Xc} (hL : ∀ a, L a → Z a) (wk : Wk X.K J us S) (R0 : Rep c.ca X.K L Z σ H ρ G) (tk : Tk c X L Z H (fp σ ρ G) Xm) (en : EndS c X L Z H (fp σ ρ G) nx rt ct D)
    (hS : ∀ σ2 H2 ρ2 G2, Ext H (fp σ ρ G) H2 (fp σ2 ρ2 G2) → Rep c.ca X.K L Z σ2 H2 ρ2 G2 → ck ρ2 G2 → S H2 (Or2 (fp σ2 ρ2 G2) Z)) (hck : ck ρ G)
    (w2 : forI ck (fun x ρ2 G2 K => asgT c.P Γ t (.u x) ρ2 G2 Xm fun ρ3 G3 => wpSs c.P Γ ms ρ3 G3 K rt K Xm) us ρ G nx) :
    ∃ W : Nat → Nat → L2.St → Hp → Prop, (∃ m, W 0 m σ H) ∧ ∀ i m σ H, W i m σ H →
      (J.stop i H ∧ D.nx σ H) ∨ (J.go i H ∧ ∃ N : L2.St → Hp → Prop, (∀ σ' H', N σ' H' → ∃ m', m' < m ∧ W (i + 1) m' σ' H') ∧ ∀ x H', J.yld i H x H' → tT c Γ X t x σ H' fun σ2 H2 => tSs c Γ X ms { D with nx := N, ct := N, bk := D.nx } σ2 H2) := by
  refine ⟨fun i m σ2 H2 => m = us.length - i ∧ i ≤ us.length ∧ ∃ ρ2 G2, Ext H (fp σ ρ G) H2 (fp σ2 ρ2 G2) ∧ Rep c.ca X.K L Z σ2 H2 ρ2 G2 ∧ ck ρ2 G2 ∧ forI ck (fun x ρ2 G2 K => asgT c.P Γ t (.u x) ρ2 G2 Xm fun ρ3 G3 => wpSs c.P Γ ms ρ3 G3 K rt K Xm) (us.drop i) ρ2 G2 nx,
    ⟨us.length, by simp, Nat.zero_le _, ρ, G, Ext.refl _ _, R0, hck, w2⟩, ?_⟩
  rintro i m σ2 H2 ⟨rfl, hi, ρ2, G2, hx2, R2, hck2, w3⟩
  have s2 := hS σ2 H2 ρ2 G2 hx2 R2 hck2
  by_cases hlt : i < us.length
  · refine .inr ⟨wk.goes hlt s2, _, fun σ' H' h => h, fun x H3 yl => ?_⟩
    rw [List.drop_eq_getElem_cons hlt] at w3
    simp only [forI_nil, forI_cons] at w3
    obtain ⟨hk, qx⟩ := wk.yields (List.getElem?_eq_getElem hlt) s2 (fun a z => z.elim (fun z => by obtain ⟨o, e, _⟩ := R2.mut z; exact ⟨o, e⟩) fun z => (R2.zd a z).2) yl
    have hx3 : Ext H2 (fp σ2 ρ2 G2) H3 (fp σ2 ρ2 G2) := fun a o e n => ⟨hk a o e, n⟩
    have hx03 := hx2.trans hx3
    refine ⟨L, Z, H3, fp σ2 ρ2 G2, ρ2, G2, .u us[i], Xm, _, ⟨?_, ?_, fun p z => z.elim⟩, hL, Ext.refl _ _, w3, tk.go hx03 fun _ z => z, fun σ4 ρ4 G4 H4 _ hx4 R4 w4 => ?_⟩
    · rw [hd_u, or2_false]; exact R2.heapExt hk
    · rw [hd_u, or2_false]; exact qx
    · have hx04 := hx03.trans hx4
      have turn : ∀ σ' H' ρ' G', Ext H4 (fp σ4 ρ4 G4) H' (fp σ' ρ' G') → Rep c.ca X.K L Z σ' H' ρ' G' → (∃ G'', Sub G'' G' ∧ ck ρ' G'' ∧ forI ck (fun x ρ2 G2 K => asgT c.P Γ t (.u x) ρ2 G2 Xm fun ρ3 G3 => wpSs c.P Γ ms ρ3 G3 K rt K Xm) (us.drop (i + 1)) ρ' G'' nx) →
          ∃ m', m' < us.length - i ∧ m' = us.length - (i + 1) ∧ i + 1 ≤ us.length ∧ ∃ ρ2 G2, Ext H (fp σ ρ G) H' (fp σ' ρ2 G2) ∧ Rep c.ca X.K L Z σ' H' ρ2 G2 ∧ ck ρ2 G2 ∧ forI ck (fun x ρ2 G2 K => asgT c.P Γ t (.u x) ρ2 G2 Xm fun ρ3 G3 => wpSs c.P Γ ms ρ3 G3 K rt K Xm) (us.drop (i + 1)) ρ2 G2 nx := fun σ' H' ρ' G' hx5 R5 ⟨G6, hs6, hck6, w6⟩ =>
        ⟨us.length - (i + 1), by omega, rfl, hlt, ρ', G6, (((hx2.trans hx3).trans hx4).trans hx5).subG hs6, R5.sub hs6, hck6, w6⟩
      refine ⟨L, Z, ρ4, G4, _, rt, _, Xm, R4, hL, w4, tk.go hx04 fun _ z => z, ⟨turn, ?_, turn⟩⟩
      exact (en.go hx04).rt
  · have e : i = us.length := by omega
    subst e
    rw [List.drop_length] at w3
    simp only [forI_nil, forI_cons] at w3
    exact .inl ⟨wk.stops s2, en.nx σ2 H2 ρ2 G2 hx2 R2 w3⟩
theorem PS.or {t1 t2 : TS} (h1 : PS X st t1) (h2 : PS X st t2) : PS X st (fun D σ H => t1 D σ H ∨ t2 D σ H) := ⟨fun pins s σ H D I q => q.elim (h1.run pins s σ H D I) (h2.run pins s σ H D I)⟩
theorem wk_keys {p : Addr} {o : Obj} {kvs : List (Key × V)} (hg : (kvs.map fun q => kKey q.1).all goodU = true) : Wk Kf (Itk p o kvs) (kvs.map fun q => kKey q.1) (fun H _ => H p = some (.frz o (.dK kvs))) := by
  refine ⟨fun {i H ex} hi s => ?_, fun {H ex} s => ?_, fun {i H ex x H' u} hu s _ y => ?_⟩
  · rw [List.length_map] at hi
    exact ⟨s, hi⟩
  · rw [List.length_map]
    exact ⟨s, Nat.le_refl _⟩
  · obtain ⟨e, k, v, h1, h2⟩ := y
    subst e
    subst h2
    refine ⟨fun _ _ e => e, ?_⟩
    rw [List.getElem?_map, h1] at hu
    cases hu
    have hg1 := List.all_eq_true.mp hg (kKey k) (List.mem_map.mpr ⟨(k, v), List.mem_of_getElem? h1, rfl⟩)
    cases k with
    | inl j => simp only [kKey, kV, RepU]
    | inr s =>
      simp only [kKey, kV, RepU]
      simp only [kKey, goodU, Bool.and_eq_true, decide_eq_true_eq] at hg1
      exact ⟨by simp, hg1.1, fun c hc => of_decide_eq_true (List.all_eq_true.mp hg1.2 c hc)⟩
theorem noFz_out : ∀ {ρ : Rho} {i k : Nat}, noFz i ρ k = true → ∀ j t u, ρ[j]? = some (some (.fz t u)) → k + j = i
  | [], _, _, _, j, t, u, e => by simp at e
  | s :: ρ, i, k, h, j, t, u, e => by
    cases j with
    | zero =>
      simp at e
      subst e
      simp only [noFz, Bool.and_eq_true, decide_eq_true_eq] at h
      exact h.1
    | succ j =>
      have h' : noFz i ρ (k + 1) = true := by
        match s, h with
        | none, h => exact h
        | some (.u _), h => exact h
        | some (.own _), h => exact h
        | some (.exc _ _), h => exact h
        | some (.fz _ _), h =>
          simp only [noFz, Bool.and_eq_true] at h
          exact h.2
      have := noFz_out h' j t u (by simpa using e)
      omega
theorem Rep.lend {i : Nat} {p : Addr} {ks ws : List U} {o : HO} (R : Rep ca Kf L Z σ H ρ G) (hs : ρ[i]? = some (some (.u (.ref p)))) (hG : G p = some (.con (.dic ks ws))) (hH : H p = some o) :
    Rep ca Kf (Or2 L (One p)) (Or2 Z (One p)) σ H (ρ.set i (some (.fz p (.dic ks ws)))) (delG G p) ∧ ∀ a, fp σ (ρ.set i (some (.fz p (.dic ks ws)))) (delG G p) a ↔ fp σ ρ G a ∧ a ≠ p := by
  have fpp : fp σ ρ G p := .inl ⟨_, hG⟩
  have hfp : ∀ a, fp σ (ρ.set i (some (.fz p (.dic ks ws)))) (delG G p) a ↔ fp σ ρ G a ∧ a ≠ p := fun a => by
    constructor
    · rintro (⟨o, e⟩ | ⟨j, u, h1, h2⟩)
      · unfold delG at e
        by_cases z : a = p
        · rw [if_pos z] at e; cases e
        · rw [if_neg z] at e
          exact ⟨.inl ⟨o, e⟩, z⟩
      · rcases set_at h1 with ⟨_, h5⟩ | ⟨_, h5⟩
        · cases h5
        refine ⟨.inr ⟨j, u, h5, h2⟩, fun z => ?_⟩
        subst z
        rw [R.ownG j u a h5 h2] at hG
        cases hG
    · rintro ⟨⟨o, e⟩ | ⟨j, u, h1, h2⟩, z⟩
      · exact .inl ⟨o, by unfold delG; rw [if_neg z]; exact e⟩
      · refine .inr ⟨j, u, ?_, h2⟩
        by_cases z2 : j = i
        · subst z2; rw [hs] at h1; cases h1
        · rw [List.getElem?_set_ne (Ne.symm z2)]; exact h1
  have hex : Or2 (fp σ (ρ.set i (some (.fz p (.dic ks ws)))) (delG G p)) (Or2 Z (One p)) = Or2 (fp σ ρ G) Z := by
    funext a
    refine propext ⟨fun q => ?_, fun q => ?_⟩
    · rcases q with q | q | q
      · exact .inl ((hfp a).mp q).1
      · exact .inr q
      · have q' : a = p := q
        subst q'
        exact .inl fpp
    · rcases q with q | q
      · by_cases z : a = p
        · exact .inr (.inr z)
        · exact .inl ((hfp a).mpr ⟨q, z⟩)
      · exact .inr (.inl q)
  refine ⟨⟨by rw [List.length_set]; exact R.len, fun j sv e => ?_, fun j k u w a h1 h2 h3 h4 => ?_, fun j u a h1 h2 => ?_, fun a o e => ?_, fun a z => ?_⟩, hfp⟩
  · rw [hex]
    rcases set_at e with ⟨e1, e2⟩ | ⟨e1, e2⟩
    · subst e1
      cases e2
      obtain ⟨v, e3, q⟩ := R.slot _ _ hs
      have q' : RepU Kf H (Or2 (fp σ ρ G) Z) (.ref p) v := q
      simp only [RepU] at q'
      subst q'
      obtain ⟨ho, e4, q⟩ := R.heap p _ hG
      exact ⟨_, e3, rfl, ⟨fun z => ((hfp p).mp z).2 rfl, .inr rfl⟩, ho, .inl e4, q⟩
    · obtain ⟨v, e3, q⟩ := R.slot _ _ e2
      refine ⟨v, e3, ?_⟩
      cases sv with
      | u x => exact q
      | own x => exact q
      | fz t x =>
        obtain ⟨e5, ⟨n5, l⟩, q⟩ := q
        exact ⟨e5, ⟨fun z => n5 ((hfp t).mp z).1, .inl l⟩, q⟩
      | exc k d => exact q
  · rcases set_at h1 with ⟨_, h5⟩ | ⟨_, h5⟩
    · cases h5
    rcases set_at h2 with ⟨_, h6⟩ | ⟨_, h6⟩
    · cases h6
    exact R.own j k u w a h5 h6 h3 h4
  · rcases set_at h1 with ⟨_, h5⟩ | ⟨_, h5⟩
    · cases h5
    have := R.ownG j u a h5 h2
    unfold delG
    by_cases z : a = p
    · rw [if_pos z]
    · rw [if_neg z]; exact this
  · rw [hex]
    unfold delG at e
    by_cases z : a = p
    · rw [if_pos z] at e; cases e
    · rw [if_neg z] at e
      exact R.heap a o e
  · rcases z with z | z
    · exact ⟨fun q => (R.zd a z).1 ((hfp a).mp q).1, (R.zd a z).2⟩
    · have z' : a = p := z
      subst z'
      exact ⟨fun q => ((hfp a).mp q).2 rfl, _, hH⟩
theorem Rep.unlend {i : Nat} {p : Addr} {ks ws : List U} {kvs : List (Key × V)} (R : Rep ca Kf (Or2 L (One p)) (Or2 Z (One p)) σ H ρ G) (hL : ∀ a, L a → Z a) (nZ : ¬ Z p) (hs : ρ[i]? = some (some (.fz p (.dic ks ws)))) (hz : noFz i ρ 0 = true) (hH : H p = some (.dK kvs)) :
    Rep ca Kf L Z σ H (ρ.set i (some (.u (.ref p)))) (put G p (.con (.dic ks ws))) ∧ ∀ a, fp σ (ρ.set i (some (.u (.ref p)))) (put G p (.con (.dic ks ws))) a ↔ fp σ ρ G a ∨ a = p := by
  obtain ⟨v, e3, e4, ⟨nfp, _⟩, o, hrd, qc⟩ := R.slot _ _ hs
  subst e4
  have eo : o = .dK kvs := by
    rcases hrd with h | ⟨od, h⟩
    · rw [hH] at h; cases h; rfl
    · rw [hH] at h; cases h
  subst eo
  have hfp : ∀ a, fp σ (ρ.set i (some (.u (.ref p)))) (put G p (.con (.dic ks ws))) a ↔ fp σ ρ G a ∨ a = p := fun a => by
    constructor
    · rintro (⟨o, e⟩ | ⟨j, u, h1, h2⟩)
      · unfold put at e
        by_cases z : a = p
        · exact .inr z
        · rw [if_neg z] at e
          exact .inl (.inl ⟨o, e⟩)
      · rcases set_at h1 with ⟨_, h5⟩ | ⟨_, h5⟩
        · cases h5
        exact .inl (.inr ⟨j, u, h5, h2⟩)
    · rintro ((⟨o, e⟩ | ⟨j, u, h1, h2⟩) | z)
      · by_cases z : a = p
        · exact .inl ⟨_, by unfold put; rw [if_pos z]⟩
        · exact .inl ⟨o, by unfold put; rw [if_neg z]; exact e⟩
      · refine .inr ⟨j, u, ?_, h2⟩
        by_cases z2 : j = i
        · subst z2; rw [hs] at h1; cases h1
        · rw [List.getElem?_set_ne (Ne.symm z2)]; exact h1
      · exact .inl ⟨_, by unfold put; rw [if_pos z]⟩
  have hex : Or2 (fp σ (ρ.set i (some (.u (.ref p)))) (put G p (.con (.dic ks ws)))) Z = Or2 (fp σ ρ G) (Or2 Z (One p)) := by
    funext a
    refine propext ⟨fun q => ?_, fun q => ?_⟩
    · rcases q with q | q
      · rcases (hfp a).mp q with q | q
        · exact .inl q
        · exact .inr (.inr q)
      · exact .inr (.inl q)
    · rcases q with q | q | q
      · exact .inl ((hfp a).mpr (.inl q))
      · exact .inr q
      · exact .inl ((hfp a).mpr (.inr q))
  refine ⟨⟨by rw [List.length_set]; exact R.len, fun j sv e => ?_, fun j k u w a h1 h2 h3 h4 => ?_, fun j u a h1 h2 => ?_, fun a o e => ?_, fun a z => ?_⟩, hfp⟩
  · rw [hex]
    rcases set_at e with ⟨e1, e2⟩ | ⟨e1, e2⟩
    · subst e1
      cases e2
      refine ⟨_, e3, ?_⟩
      show RepU _ _ _ _ _
      simp only [RepU]
    · obtain ⟨v, e5, q⟩ := R.slot _ _ e2
      refine ⟨v, e5, ?_⟩
      cases sv with
      | u x => exact q
      | own x => exact q
      | fz t x =>
        have := noFz_out hz _ _ _ e2
        omega
      | exc k d => exact q
  · rcases set_at h1 with ⟨_, h5⟩ | ⟨_, h5⟩
    · cases h5
    rcases set_at h2 with ⟨_, h6⟩ | ⟨_, h6⟩
    · cases h6
    exact R.own j k u w a h5 h6 h3 h4
  · rcases set_at h1 with ⟨_, h5⟩ | ⟨_, h5⟩
    · cases h5
    have := R.ownG j u a h5 h2
    unfold put
    by_cases z : a = p
    · subst z
      exact absurd (.inr ⟨j, u, h5, h2⟩) nfp
    · rw [if_neg z]; exact this
  · rw [hex]
    unfold put at e
    by_cases z : a = p
    · rw [if_pos z] at e
      cases e
      subst z
      exact ⟨_, hH, qc⟩
    · rw [if_neg z] at e
      exact R.heap a o e
  · exact ⟨fun q => ((hfp a).mp q).elim (R.zd a (.inl z)).1 fun e => nZ (e ▸ z), (R.zd a (.inl z)).2⟩
/-- the loop, the dict locked -/
theorem fork_at {i : Nat} {t : T} {p : Addr} {od : Obj} {kvs : List (Key × V)} {Xm : Xc} (hL : ∀ a, L a → Z a) (R : Rep c.ca X.K L Z σ H ρ G) (tk : Tk c X L Z H (fp σ ρ G) Xm) (en : EndS c X L Z H (fp σ ρ G) nx rt ct D) (hp : H p = some (.frz od (.dK kvs))) (hs : σ[i]? = some (some (.ref p)))
    (hg : (kvs.map fun q => kKey q.1).all goodU = true)
    (w : forI (fun _ _ => True) (fun x ρ2 G2 K => asgT c.P Γ t (.u x) ρ2 G2 (fun _ _ _ _ => False) fun ρ3 G3 => wpSs c.P Γ ms ρ3 G3 K rt K fun _ _ _ _ => False) (kvs.map fun q => kKey q.1) ρ G nx) :
    tFor (iKeys (tVar i)) (tT c Γ X t) (tSs c Γ X ms) D σ H := by
  have nf := R.nofrz hp
  have tk0 : Tk c X L Z H (fp σ ρ G) (fun _ _ _ _ => False) := ⟨tk.1, Takes.imp tk.2 fun cls d σ2 H2 ⟨k, as, ρ3, G3, h1, h2, h3, h4⟩ => h4.elim⟩
  refine ⟨.ref p, hs, p, od, rfl, .inl ⟨kvs, hp, ?_⟩⟩
  exact for_core hL (wk_keys hg) R tk0 en (fun σ2 H2 ρ2 G2 hx _ _ => (hx p _ hp nf).1) trivial w
theorem s_fork {i : Nat} {t : T} {x : Str} {px : Pos} (hp : PassesOwn (model X.prog X.w) X.A X.env X.xe) (hc : X.calm = true) (gi : PE X (.Name x px) (tVar i)) (gt : PG X tg (tT c Γ X t)) (g1 : PSs X sts (tSs c Γ X ms)) : PS X (.For tg (.Name x px) sts [] pos) (tS c Γ X (.fork i t ms)) := by
  have base := ps_for (pos := pos) hp hc (pi_keys gi) gt g1 (fun _ => rfl)
  refine PS.imp (PS.or base (ps_lock base)) fun D σ H ⟨L, Z, ρ, G, nx, rt, ct, Xm, R, hL, w, tk, en⟩ => ?_
  simp only [wpS] at w
  have tk0 : ∀ {L Z H f}, Tk c X L Z H f (fun _ _ _ _ => False) := fun {L Z H f} => ⟨tk.1, Takes.imp tk.2 fun cls d σ2 H2 ⟨k, as, ρ3, G3, h1, h2, h3, h4⟩ => h4.elim⟩
  -- a dict that nobody writes
  have dic : ∀ {ρ : Rho} {kvs : List (Key × V)} {p : Addr}, Rep c.ca X.K L Z σ H ρ G → EndS c X L Z H (fp σ ρ G) nx rt ct D → ¬ fp σ ρ G p → Rd H p (.dK kvs) → σ[i]? = some (some (.ref p)) → (kvs.map fun q => kKey q.1).all goodU = true →
      forI (fun _ _ => True) (fun x ρ2 G2 K => asgT c.P Γ t (.u x) ρ2 G2 (fun _ _ _ _ => False) fun ρ3 G3 => wpSs c.P Γ ms ρ3 G3 K rt K fun _ _ _ _ => False) (kvs.map fun q => kKey q.1) ρ G nx →
      tFor (iKeys (tVar i)) (tT c Γ X t) (tSs c Γ X ms) D σ H ∨ tLock (tFor (iKeys (tVar i)) (tT c Γ X t) (tSs c Γ X ms)) D σ H := fun {ρ kvs p} R en nf hrd hs hg w => by
    rcases hrd with h | ⟨od, h⟩
    · exact .inr ⟨p, _, h, trivial, fun od => fork_at hL (R.lock h nf) tk0 (en.lock h nf) upd_same hs hg w⟩
    · exact .inl (fork_at hL R tk0 en h hs hg w)
  cases hs : ρ[i]? with
  | none => rw [hs] at w; exact w.elim
  | some os =>
    rw [hs] at w
    cases os with
    | none => exact w.elim
    | some sv =>
      obtain ⟨v, hv, q⟩ := R.slot i sv hs
      cases sv with
      | exc a d => exact w.elim
      | fz t2 y =>
        obtain ⟨e, ⟨nf, _⟩, o, hrd, q⟩ := q
        cases y <;> try exact w.elim
        obtain ⟨kvs, e2, e3, _⟩ := q
        subst e e2 e3
        exact dic R en nf hrd hv w.1 w.2
      | own y =>
        cases y <;> try exact w.elim
        obtain ⟨hg, w⟩ := w
        obtain ⟨hi, w⟩ := setK_lt w
        obtain ⟨R2, qf, sub⟩ := R.freeze hs hv
        simp only [RepU] at qf
        obtain ⟨p, kvs, e, nf, hrd, e2, _⟩ := qf
        subst e e2
        exact dic R2 (en.go (Ext.sub sub)) (fun z => nf (.inl z)) hrd hv hg w
      | u y =>
        cases y <;> try exact w.elim
        · have q' : RepU X.K H (Or2 (fp σ ρ G) Z) (.dic _ _) v := q
          simp only [RepU] at q'
          obtain ⟨p, kvs, e, nf, hrd, e2, _⟩ := q'
          subst e e2
          exact dic R en (fun z => nf (.inl z)) hrd hv w.1 w.2
        · rename_i p
          have q' : RepU X.K H (Or2 (fp σ ρ G) Z) (.ref p) v := q
          simp only [RepU] at q'
          subst q'
          simp only [forkK] at w
          cases hG : G p with
          | none => rw [hG] at w; exact w.elim
          | some o =>
            rw [hG] at w
            cases o with
            | ins k fs => exact w.elim
            | con cc =>
              cases cc <;> try exact w.elim
              rename_i ks ws
              obtain ⟨hg, w⟩ := w
              obtain ⟨hi, w⟩ := setK_lt w
              obtain ⟨ho, hH, kvs, e1, e2, qv⟩ := R.heap p _ hG
              subst e1 e2
              refine .inr ⟨p, _, hH, trivial, fun od => ?_⟩
              have fpp : fp σ ρ G p := .inl ⟨_, hG⟩
              have nZ : ¬ Z p := fun z => (R.zd p z).1 fpp
              obtain ⟨R0, hfp⟩ := R.lend hs hG hH
              have nf0 : ¬ fp σ (ρ.set i (some (.fz p (.dic (kvs.map fun q => kKey q.1) ws)))) (delG G p) p := fun z => ((hfp p).mp z).2 rfl
              have hL0 : ∀ a, Or2 L (One p) a → Or2 Z (One p) a := fun a z => z.imp (hL a) id
              refine fork_at (rt := fun _ _ _ => False) (ct := fun _ _ => False) hL0 (R0.lock hH nf0) tk0 ⟨fun σ' H' ρ' G' hx R' k => ?_, fun _ _ _ _ _ _ _ _ k => k.elim, fun _ _ _ _ _ _ k => k.elim⟩ upd_same hv hg w
              obtain ⟨⟨h3, h4⟩, k⟩ := k
              obtain ⟨_, k⟩ := setK_lt k
              obtain ⟨h1, h2⟩ := hx p _ upd_same nf0
              obtain ⟨R5, hf5⟩ := (R'.unlock h1).unlend hL nZ h3 h4 upd_same
              refine ⟨h1, en.nx σ' _ _ _ (fun a o e na => ?_) R5 k⟩
              have z : a ≠ p := fun z => by subst z; exact na fpp
              obtain ⟨h6, h7⟩ := hx a o (by rw [upd_ne z]; exact e) fun q => na ((hfp a).mp q).1
              exact ⟨by rw [upd_ne z]; exact h6, fun q => ((hf5 a).mp q).elim h7 z⟩
theorem FzS.out {i k : Nat} {ρ ρ' : Rho} (h : FzS i k ρ ρ') : ∀ {j t u}, ρ'[j]? = some (some (.fz t u)) → k + j = i ∨ ρ[j]? = some (some (.fz t u)) := by
  induction h with
  | nil => intro j t u e; simp at e
  | eq _ ih =>
    intro j t u e
    cases j with
    | zero => exact .inr e
    | succ j => exact (ih (j := j) (by simpa using e)).imp (fun z => by omega) fun z => by simpa using z
  | here _ ih =>
    intro j t u e
    cases j with
    | zero => exact .inl rfl
    | succ j => exact (ih (j := j) (by simpa using e)).imp (fun z => by omega) fun z => by simpa using z
  | u _ ih =>
    intro j t u e
    cases j with
    | zero => simp at e
    | succ j => exact (ih (j := j) (by simpa using e)).imp (fun z => by omega) fun z => by simpa using z
  | @map _ _ q _ _ _ ih =>
    intro j t u e
    cases j with
    | zero => cases q <;> simp at e
    | succ j => exact (ih (j := j) (by simpa using e)).imp (fun z => by omega) fun z => by simpa using z
  | own _ ih =>
    intro j t u e
    cases j with
    | zero => simp at e
    | succ j => exact (ih (j := j) (by simpa using e)).imp (fun z => by omega) fun z => by simpa using z
  | none _ ih =>
    intro j t u e
    cases j with
    | zero => simp at e
    | succ j => exact (ih (j := j) (by simpa using e)).imp (fun z => by omega) fun z => by simpa using z
theorem Rep.lendO {i : Nat} {p : Addr} {y : U} (R : Rep ca Kf L Z σ H ρ G) (hs : ρ[i]? = some (some (.own y))) (hv : σ[i]? = some (some (.ref p))) :
    Rep ca Kf (Or2 L (One p)) (Or2 Z (One p)) σ H (ρ.set i (some (.fz p y))) G ∧ ∀ a, fp σ (ρ.set i (some (.fz p y))) G a ↔ fp σ ρ G a ∧ a ≠ p := by
  have fpp : fp σ ρ G p := .inr ⟨i, y, hs, hv⟩
  have hGp := R.ownG i y p hs hv
  have hfp : ∀ a, fp σ (ρ.set i (some (.fz p y))) G a ↔ fp σ ρ G a ∧ a ≠ p := fun a => by
    constructor
    · rintro (⟨o, e⟩ | ⟨j, u, h1, h2⟩)
      · exact ⟨.inl ⟨o, e⟩, fun z => by rw [z, hGp] at e; cases e⟩
      · rcases set_at h1 with ⟨_, h5⟩ | ⟨ne, h5⟩
        · cases h5
        · exact ⟨.inr ⟨j, u, h5, h2⟩, fun z => ne (R.own j i u y p h5 hs (z ▸ h2) hv)⟩
    · rintro ⟨⟨o, e⟩ | ⟨j, u, h1, h2⟩, z⟩
      · exact .inl ⟨o, e⟩
      · refine .inr ⟨j, u, ?_, h2⟩
        by_cases z2 : j = i
        · subst z2; rw [hv] at h2; exact absurd (by cases h2; rfl) z
        · rw [List.getElem?_set_ne (Ne.symm z2)]; exact h1
  have hex : Or2 (fp σ (ρ.set i (some (.fz p y))) G) (Or2 Z (One p)) = Or2 (fp σ ρ G) Z := by
    funext a
    refine propext ⟨fun q => ?_, fun q => ?_⟩
    · rcases q with q | q | q
      · exact .inl ((hfp a).mp q).1
      · exact .inr q
      · have q' : a = p := q
        subst q'
        exact .inl fpp
    · rcases q with q | q
      · by_cases z : a = p
        · exact .inr (.inr z)
        · exact .inl ((hfp a).mpr ⟨q, z⟩)
      · exact .inr (.inl q)
  have nZ : ¬ Z p := fun z => (R.zd p z).1 fpp
  obtain ⟨v, e3, p', o, e4, e5, qc⟩ := R.slot _ _ hs
  rw [hv] at e3
  cases e3
  cases e4
  refine ⟨⟨by rw [List.length_set]; exact R.len, fun j sv e => ?_, fun j k u w a h1 h2 h3 h4 => ?_, fun j u a h1 h2 => ?_, fun a o e => ?_, fun a z => ?_⟩, hfp⟩
  · rw [hex]
    rcases set_at e with ⟨e1, e2⟩ | ⟨e1, e2⟩
    · subst e1
      cases e2
      exact ⟨_, hv, rfl, ⟨fun z => ((hfp p).mp z).2 rfl, .inr rfl⟩, o, .inl e5, qc⟩
    · obtain ⟨v, e3, q⟩ := R.slot _ _ e2
      refine ⟨v, e3, ?_⟩
      cases sv with
      | u x => exact q
      | own x => exact q
      | fz t x =>
        obtain ⟨e5, ⟨n5, l⟩, q⟩ := q
        exact ⟨e5, ⟨fun z => n5 ((hfp t).mp z).1, .inl l⟩, q⟩
      | exc k d => exact q
  · rcases set_at h1 with ⟨_, h5⟩ | ⟨_, h5⟩
    · cases h5
    rcases set_at h2 with ⟨_, h6⟩ | ⟨_, h6⟩
    · cases h6
    exact R.own j k u w a h5 h6 h3 h4
  · rcases set_at h1 with ⟨_, h5⟩ | ⟨_, h5⟩
    · cases h5
    exact R.ownG j u a h5 h2
  · rw [hex]
    exact R.heap a o e
  · rcases z with z | z
    · exact ⟨fun q => (R.zd a z).1 ((hfp a).mp q).1, (R.zd a z).2⟩
    · have z' : a = p := z
      subst z'
      exact ⟨fun q => ((hfp a).mp q).2 rfl, _, e5⟩
theorem Rep.unlendO {i : Nat} {p : Addr} {y : U} {o : HO} (R : Rep ca Kf (Or2 L (One p)) (Or2 Z (One p)) σ H ρ G) (nZ : ¬ Z p) (hs : ρ[i]? = some (some (.fz p y))) (hz : ∀ j t x, j ≠ i → ρ[j]? = some (some (.fz t x)) → t ≠ p) (hH : H p = some o) (qc : RepC Kf H (Or2 (fp σ ρ G) (Or2 Z (One p))) ca.w p y o) :
    Rep ca Kf L Z σ H (ρ.set i (some (.own y))) G ∧ ∀ a, fp σ (ρ.set i (some (.own y))) G a ↔ fp σ ρ G a ∨ a = p := by
  obtain ⟨v, e3, e4, ⟨nfp, _⟩, _⟩ := R.slot _ _ hs
  subst e4
  have hil : i < ρ.length := (List.getElem?_eq_some_iff.mp hs).1
  have hGp : G p = none := by
    cases e : G p with
    | none => rfl
    | some o => exact absurd (.inl ⟨o, e⟩) nfp
  have hfp : ∀ a, fp σ (ρ.set i (some (.own y))) G a ↔ fp σ ρ G a ∨ a = p := fun a => by
    constructor
    · rintro (⟨o, e⟩ | ⟨j, u, h1, h2⟩)
      · exact .inl (.inl ⟨o, e⟩)
      · rcases set_at h1 with ⟨ej, h5⟩ | ⟨_, h5⟩
        · subst ej
          rw [e3] at h2
          cases h2
          exact .inr rfl
        · exact .inl (.inr ⟨j, u, h5, h2⟩)
    · rintro ((⟨o, e⟩ | ⟨j, u, h1, h2⟩) | z)
      · exact .inl ⟨o, e⟩
      · refine .inr ⟨j, u, ?_, h2⟩
        by_cases z2 : j = i
        · subst z2; rw [hs] at h1; cases h1
        · rw [List.getElem?_set_ne (Ne.symm z2)]; exact h1
      · subst z
        exact .inr ⟨i, y, by rw [List.getElem?_set_self hil], e3⟩
  have hex : Or2 (fp σ (ρ.set i (some (.own y))) G) Z = Or2 (fp σ ρ G) (Or2 Z (One p)) := by
    funext a
    refine propext ⟨fun q => ?_, fun q => ?_⟩
    · rcases q with q | q
      · rcases (hfp a).mp q with q | q
        · exact .inl q
        · exact .inr (.inr q)
      · exact .inr (.inl q)
    · rcases q with q | q | q
      · exact .inl ((hfp a).mpr (.inl q))
      · exact .inr q
      · exact .inl ((hfp a).mpr (.inr q))
  refine ⟨⟨by rw [List.length_set]; exact R.len, fun j sv e => ?_, fun j k u w a h1 h2 h3 h4 => ?_, fun j u a h1 h2 => ?_, fun a o e => ?_, fun a z => ?_⟩, hfp⟩
  · rw [hex]
    rcases set_at e with ⟨e1, e2⟩ | ⟨e1, e2⟩
    · subst e1
      cases e2
      exact ⟨_, e3, p, o, rfl, hH, qc⟩
    · obtain ⟨v, e5, q⟩ := R.slot _ _ e2
      refine ⟨v, e5, ?_⟩
      cases sv with
      | u x => exact q
      | own x => exact q
      | fz t x =>
        obtain ⟨e6, ⟨n6, l⟩, q⟩ := q
        have np : t ≠ p := hz j t x e1 e2
        exact ⟨e6, ⟨fun z => ((hfp t).mp z).elim n6 np, l.elim id fun z => absurd z np⟩, q⟩
      | exc k d => exact q
  · rcases set_at h1 with ⟨ej, h5⟩ | ⟨nj, h5⟩
    · rcases set_at h2 with ⟨ek, h6⟩ | ⟨nk, h6⟩
      · rw [ej, ek]
      · subst ej
        rw [e3] at h3
        cases h3
        exact absurd (.inr ⟨k, w, h6, h4⟩) nfp
    · rcases set_at h2 with ⟨ek, h6⟩ | ⟨nk, h6⟩
      · subst ek
        rw [e3] at h4
        cases h4
        exact absurd (.inr ⟨j, u, h5, h3⟩) nfp
      · exact R.own j k u w a h5 h6 h3 h4
  · rcases set_at h1 with ⟨ej, h5⟩ | ⟨_, h5⟩
    · subst ej
      rw [e3] at h2
      cases h2
      exact hGp
    · exact R.ownG j u a h5 h2
  · rw [hex]
    exact R.heap a o e
  · exact ⟨fun q => ((hfp a).mp q).elim (R.zd a (.inl z)).1 fun e => nZ (e ▸ z), (R.zd a (.inl z)).2⟩
/-- a statement, the list of a slot lent meanwhile -/
theorem s_lend {i : Nat} (g : PS X st (tS c Γ X m)) : PS X st (tS c Γ X (.lend i m)) := by
  refine PS.imp g fun D σ H ⟨L, Z, ρ, G, nx, rt, ct, Xm, R, hL, w, tk, en⟩ => ?_
  simp only [wpS] at w
  cases hs : ρ[i]? with
  | none => rw [hs] at w; exact w.elim
  | some os =>
    rw [hs] at w
    cases os with
    | none => exact w.elim
    | some sv =>
      cases sv with
      | u y => exact w.elim
      | fz t y => exact w.elim
      | exc a d => exact w.elim
      | own y =>
        obtain ⟨v, hv, p, o, e1, hH, qc⟩ := R.slot i _ hs
        subst e1
        obtain ⟨hi, w⟩ := setK_lt (w p)
        have fpp : fp σ ρ G p := .inr ⟨i, y, hs, hv⟩
        have nZ : ¬ Z p := fun z => (R.zd p z).1 fpp
        obtain ⟨R0, hfp⟩ := R.lendO hs hv
        have nf0 : ¬ fp σ (ρ.set i (some (.fz p y))) G p := fun z => ((hfp p).mp z).2 rfl
        have hL0 : ∀ a, Or2 L (One p) a → Or2 Z (One p) a := fun a z => z.imp (hL a) id
        refine ⟨Or2 L (One p), Or2 Z (One p), ρ.set i (some (.fz p y)), G, _, _, _, _, R0, hL0, w, ⟨tk.1, Takes.imp tk.2 fun cls d σ2 H2 ⟨k, as, ρ3, G3, h1, h2, h3, h4⟩ => h4.elim⟩, ⟨fun σ' H' ρ' G' hx R' k => ?_, fun _ _ _ _ _ _ _ _ k => k.elim, fun _ _ _ _ _ _ k => k.elim⟩⟩
        obtain ⟨h3, h4, k⟩ := k
        obtain ⟨_, k⟩ := setK_lt k
        obtain ⟨h1, h2⟩ := hx p _ hH nf0
        have hz : ∀ j t x, j ≠ i → ρ'[j]? = some (some (.fz t x)) → t ≠ p := fun j t x nj e z => by
          subst z
          rcases h4.out e with z | z
          · exact nj (by omega)
          · obtain ⟨v2, _, _, ⟨n6, _⟩, _⟩ := R.slot _ _ z
            exact n6 fpp
        have hq : Ext H (Or2 (fp σ ρ G) Z) H' (Or2 (fp σ' ρ' G') (Or2 Z (One p))) := fun a o e n => by
          obtain ⟨g1, g2⟩ := hx a o e fun q => n (.inl ((hfp a).mp q).1)
          exact ⟨g1, fun q => q.elim g2 fun q => q.elim (fun q => n (.inr q)) fun (q : a = p) => n (.inl (q ▸ fpp))⟩
        obtain ⟨R5, hf5⟩ := R'.unlendO nZ h3 hz h1 (qc.ext hq)
        refine en.nx σ' H' _ _ (fun a o e na => ?_) R5 k
        obtain ⟨h6, h7⟩ := hx a o e fun q => na ((hfp a).mp q).1
        exact ⟨h6, fun q => ((hf5 a).mp q).elim h7 fun z => na (z ▸ fpp)⟩
end
end Mp
namespace Mp
open PySem PySem.Spec PyProof.Rows L2
noncomputable def wipeL (ρ : Rho) : List Nat → Rho
  | [] => ρ
  | v :: vs => (wipeL ρ vs).set v none
noncomputable def backL (ρ0 ρ : Rho) : List Nat → Rho
  | [] => ρ
  | v :: vs => match ρ0[v]? with
    | some o => (backL ρ0 ρ vs).set v o
    | none => backL ρ0 ρ vs
theorem wipeK_out : ∀ {vs : List Nat} {ρ : Rho} {K0 : Rho → Prop}, wipeK ρ vs K0 → K0 (wipeL ρ vs)
  | [], _, _, h => h
  | v :: vs, ρ, K0, h => by
    have h' : wipeK ρ vs fun ρ' => setK ρ' v none K0 := h
    exact (setK_lt (wipeK_out h')).2
theorem backK_out : ∀ {vs : List Nat} {ρ0 ρ : Rho} {K0 : Rho → Prop}, backK ρ0 ρ vs K0 → K0 (backL ρ0 ρ vs)
  | [], _, _, _, h => h
  | v :: vs, ρ0, ρ, K0, h => by
    have h' : backK ρ0 ρ vs fun ρ' => optK (ρ0[v]?) fun o => setK ρ' v o K0 := h
    obtain ⟨o, e, h2⟩ := optK_out (backK_out h')
    unfold backL
    rw [e]
    exact (setK_lt h2).2
theorem wipeL_length {ρ : Rho} : ∀ {vs : List Nat}, (wipeL ρ vs).length = ρ.length
  | [] => rfl
  | v :: vs => by unfold wipeL; rw [List.length_set, wipeL_length]
theorem wipeL_some {ρ : Rho} {i : Nat} {x : SV} : ∀ {vs : List Nat}, (wipeL ρ vs)[i]? = some (some x) → ρ[i]? = some (some x) ∧ i ∉ vs
  | [], h => ⟨h, by simp⟩
  | v :: vs, h => by
    unfold wipeL at h
    rcases set_at h with ⟨_, e⟩ | ⟨ne, h⟩
    · cases e
    · obtain ⟨h1, h2⟩ := wipeL_some h
      exact ⟨h1, by simp only [List.mem_cons, not_or]; exact ⟨ne, h2⟩⟩
theorem wipeL_out {ρ : Rho} {i : Nat} : ∀ {vs : List Nat}, i ∉ vs → (wipeL ρ vs)[i]? = ρ[i]?
  | [], _ => rfl
  | v :: vs, h => by
    unfold wipeL
    rw [List.getElem?_set_ne (fun e => h (by rw [e]; exact List.mem_cons_self))]
    exact wipeL_out fun m => h (List.mem_cons_of_mem _ m)
theorem backL_length {ρ0 ρ : Rho} : ∀ {vs : List Nat}, (backL ρ0 ρ vs).length = ρ.length
  | [] => rfl
  | v :: vs => by
    unfold backL
    split
    · rw [List.length_set, backL_length]
    · exact backL_length
theorem backL_some {ρ0 ρ : Rho} {i : Nat} {x : SV} (hl : ρ0.length = ρ.length) : ∀ {vs : List Nat}, (backL ρ0 ρ vs)[i]? = some (some x) → (i ∈ vs ∧ ρ0[i]? = some (some x)) ∨ (i ∉ vs ∧ ρ[i]? = some (some x))
  | [], h => .inr ⟨by simp, h⟩
  | v :: vs, h => by
    unfold backL at h
    cases e : ρ0[v]? with
    | none =>
      rw [e] at h
      have hv : ρ0.length ≤ v := List.getElem?_eq_none_iff.mp e
      rcases backL_some hl h with ⟨h1, h2⟩ | ⟨h1, h2⟩
      · exact .inl ⟨List.mem_cons_of_mem _ h1, h2⟩
      · refine .inr ⟨fun z => (List.mem_cons.mp z).elim (fun z => ?_) h1, h2⟩
        subst z
        obtain ⟨h3, _⟩ := List.getElem?_eq_some_iff.mp h2
        omega
    | some o =>
      rw [e] at h
      rcases set_at h with ⟨e1, e2⟩ | ⟨ne, h⟩
      · subst e1
        rw [e2] at e
        exact .inl ⟨List.mem_cons_self, e⟩
      · rcases backL_some hl h with ⟨h1, h2⟩ | ⟨h1, h2⟩
        · exact .inl ⟨List.mem_cons_of_mem _ h1, h2⟩
        · exact .inr ⟨fun z => (List.mem_cons.mp z).elim ne h1, h2⟩
section
variable {c : Cx0} {n : Nat} {Γ : Cal} {X : Cx} {K : Ck} {L Z Z' N : Addr → Prop} {σ : L2.St} {H H1 H2 : Hp} {ρ ρ0 ρ1 ρ2 : Rho} {G G1 G2 : Hh} {f ex : Addr → Prop} {x y v : V} {u w : U} {Qm : Kc} {a b d : E} {e1 e2 e3 tg : Expr} {pos p2 : Pos} {r : R} {Q : VK} {ca : Cs} {Kf : PySem.W.Frag} {vs own : List Nat} {D : Addr}
/-- a state with fewer slots known -/
theorem Rep.wiped (R : Rep ca Kf L Z σ H ρ G) : Rep ca Kf L Z (wipe σ vs) H (wipeL ρ vs) G ∧ ∀ a, fp (wipe σ vs) (wipeL ρ vs) G a → fp σ ρ G a := by
  have sg : ∀ {i : Nat} {x : SV}, (wipeL ρ vs)[i]? = some (some x) → ρ[i]? = some (some x) ∧ (L2.wipe σ vs)[i]? = σ[i]? := fun {i x} h => by
    obtain ⟨h1, h2⟩ := wipeL_some h
    exact ⟨h1, wipe_out h2⟩
  have sub : ∀ a, fp (L2.wipe σ vs) (wipeL ρ vs) G a → fp σ ρ G a := fun a h => by
    rcases h with h | ⟨i, x, h1, h2⟩
    · exact .inl h
    · obtain ⟨h3, h4⟩ := sg h1
      exact .inr ⟨i, x, h3, by rw [← h4]; exact h2⟩
  have hx : Ext H (Or2 (fp σ ρ G) Z) H (Or2 (fp (L2.wipe σ vs) (wipeL ρ vs) G) Z) := Ext.sub fun a z => z.elim (fun z => .inl (sub a z)) .inr
  refine ⟨⟨by rw [wipe_length, wipeL_length]; exact R.len, fun i sv e => ?_, fun i j u w a h1 h2 h3 h4 => ?_, fun i u a h1 h2 => ?_, fun a o e => ?_, fun a z => ⟨fun q => (R.zd a z).1 (sub a q), (R.zd a z).2⟩⟩, sub⟩
  · obtain ⟨h1, h2⟩ := sg e
    obtain ⟨v, e1, q⟩ := R.slot i sv h1
    exact ⟨v, by rw [h2]; exact e1, q.ext hx (fun a o x n => ⟨x, fun z => n (sub a z)⟩) fun _ _ _ _ _ e => e⟩
  · obtain ⟨k1, k2⟩ := sg h1
    obtain ⟨k3, k4⟩ := sg h2
    exact R.own i j u w a k1 k3 (by rw [← k2]; exact h3) (by rw [← k4]; exact h4)
  · obtain ⟨k1, k2⟩ := sg h1
    exact R.ownG i u a k1 (by rw [← k2]; exact h2)
  · obtain ⟨ho, e1, q⟩ := R.heap a o e
    exact ⟨ho, e1, q.ext hx⟩
/-- the slots as they were -/
theorem Rep.back (R : Rep ca Kf L Z (wipe σ vs) H ρ G) (hl : ρ0.length = ρ.length) (hv : ∀ i ∈ vs, ∀ sv, ρ0[i]? = some (some sv) → ∃ x w, sv = .u x ∧ σ[i]? = some (some w) ∧ RepU Kf H (Or2 (fp (wipe σ vs) ρ G) Z) x w) :
    Rep ca Kf L Z σ H (backL ρ0 ρ vs) G ∧ ∀ a, fp σ (backL ρ0 ρ vs) G a → fp (wipe σ vs) ρ G a := by
  have sub : ∀ a, fp σ (backL ρ0 ρ vs) G a → fp (L2.wipe σ vs) ρ G a := fun a h => by
    rcases h with h | ⟨i, x, h1, h2⟩
    · exact .inl h
    · rcases backL_some hl h1 with ⟨k1, k2⟩ | ⟨k1, k2⟩
      · obtain ⟨y, _, e, _⟩ := hv i k1 _ k2
        cases e
      · exact .inr ⟨i, x, k2, by rw [wipe_out k1]; exact h2⟩
  have ownI : ∀ {i : Nat} {u : U}, (backL ρ0 ρ vs)[i]? = some (some (.own u)) → ρ[i]? = some (some (.own u)) ∧ (L2.wipe σ vs)[i]? = σ[i]? := fun {i u} h => by
    rcases backL_some hl h with ⟨k1, k2⟩ | ⟨k1, k2⟩
    · obtain ⟨y, _, e, _⟩ := hv i k1 _ k2
      cases e
    · exact ⟨k2, wipe_out k1⟩
  have hx : Ext H (Or2 (fp (L2.wipe σ vs) ρ G) Z) H (Or2 (fp σ (backL ρ0 ρ vs) G) Z) := Ext.sub fun a z => z.elim (fun z => .inl (sub a z)) .inr
  refine ⟨⟨by rw [backL_length, ← R.len, wipe_length], fun i sv e => ?_, fun i j u w a h1 h2 h3 h4 => ?_, fun i u a h1 h2 => ?_, fun a o e => ?_, fun a z => ⟨fun q => (R.zd a z).1 (sub a q), (R.zd a z).2⟩⟩, sub⟩
  · rcases backL_some hl e with ⟨k1, k2⟩ | ⟨k1, k2⟩
    · obtain ⟨y, w, e1, e2, q⟩ := hv i k1 _ k2
      subst e1
      exact ⟨w, e2, RepU.ext hx y q⟩
    · obtain ⟨v, e1, q⟩ := R.slot i sv k2
      exact ⟨v, by rw [← wipe_out k1]; exact e1, q.ext hx (fun a o x n => ⟨x, fun z => n (sub a z)⟩) fun _ _ _ _ _ e => e⟩
  · obtain ⟨k1, k2⟩ := ownI h1
    obtain ⟨k3, k4⟩ := ownI h2
    exact R.own i j u w a k1 k3 (by rw [k2]; exact h3) (by rw [k4]; exact h4)
  · obtain ⟨k1, k2⟩ := ownI h1
    exact R.ownG i u a k1 (by rw [k2]; exact h2)
  · obtain ⟨ho, e1, q⟩ := R.heap a o e
    exact ⟨ho, e1, q.ext hx⟩
/-- a reserved address is written -/
theorem Rep.updZ {o : HO} (R : Rep ca Kf L Z σ H ρ G) (hz : Z D) (hl : ¬ L D) : Rep ca Kf L Z σ (upd H D o) ρ G ∧ Ext H (Or2 (fp σ ρ G) Z) (upd H D o) (Or2 (fp σ ρ G) Z) := by
  have nf := (R.zd D hz).1
  have keep : ∀ a w, a ≠ D → H a = some w → upd H D o a = some w := fun a w n e => by rw [upd_ne n]; exact e
  have hx : Ext H (Or2 (fp σ ρ G) Z) (upd H D o) (Or2 (fp σ ρ G) Z) := fun a w e n => ⟨keep a w (fun z => n (.inr (z ▸ hz))) e, n⟩
  refine ⟨⟨R.len, fun i sv e => ?_, R.own, R.ownG, fun a ob e => ?_, fun a z => ⟨(R.zd a z).1, ?_⟩⟩, hx⟩
  · obtain ⟨v, e1, q⟩ := R.slot i sv e
    refine ⟨v, e1, ?_⟩
    cases sv with
    | u x => exact RepU.ext hx x q
    | own x =>
      obtain ⟨p, w, h1, h2, q⟩ := q
      exact ⟨p, w, h1, keep p w (fun z => nf (.inr ⟨i, x, e, by rw [e1, h1, z]⟩)) h2, q.ext hx⟩
    | fz t x =>
      obtain ⟨h1, ⟨h2, h3⟩, w, h4, q⟩ := q
      exact ⟨h1, ⟨h2, h3⟩, w, h4.imp (fun h4 => keep t w (fun z => hl (z ▸ h3)) h4) (fun ⟨od, h4⟩ => ⟨od, keep t _ (fun z => hl (z ▸ h3)) h4⟩), q.ext hx⟩
    | exc k d => exact RepE.ext hx q
  · obtain ⟨ho, e1, q⟩ := R.heap a ob e
    exact ⟨ho, keep a ho (fun z => nf (.inl ⟨ob, by rw [← z]; exact e⟩)) e1, q.ext hx⟩
  · by_cases ea : a = D
    · exact ⟨o, by rw [ea, upd_same]⟩
    · obtain ⟨w, e⟩ := (R.zd a z).2
      exact ⟨w, keep a w ea e⟩
theorem plains_out : ∀ {own : List Nat}, plainsS ρ own = true → ∀ i ∈ own, ∀ sv, ρ[i]? = some (some sv) → ∃ x, sv = .u x
  | v :: vs, h, i, hi, sv, e => by
    simp only [plainsS, Bool.and_eq_true] at h
    rcases List.mem_cons.mp hi with z | z
    · subst z
      have h1 := h.1
      rw [e] at h1
      cases sv <;> simp only [plainS] at h1 <;> first | exact ⟨_, rfl⟩ | cases h1
    · exact plains_out h.2 i z sv e
noncomputable def Xf : Xc := fun _ _ _ _ => False
theorem tkF (ew : c.ca.w = X.w) {H0 : Hp} {f0 : Addr → Prop} : Tk c X L Z H0 f0 Xf := ⟨ew, Takes.imp takesF fun cls d σ H ⟨k, as, ρ, G, _, _, _, h⟩ => h⟩
noncomputable def tE0 (c : Cx0) (Γ : Cal) (X : Cx) (m : E) : TE := fun σ H Q => ∃ L Z ρ G Qm, Rep c.ca X.K L Z σ H ρ G ∧ (∀ a, L a → Z a) ∧ wpE c.P Γ m ρ G Xf Qm ∧ EndE c X L Z σ H (fp σ ρ G) Qm Q
noncomputable def tT0 (c : Cx0) (Γ : Cal) (X : Cx) (t : T) : TG := fun v σ H Q => ∃ L Z H0 f0 ρ G r Qm, RepR c.ca X.K L Z σ H0 f0 H ρ G r v ∧ (∀ a, L a → Z a) ∧ Ext H0 f0 H (fp σ ρ G) ∧ asgT c.P Γ t r ρ G Xf Qm ∧ EndG c X L Z H0 f0 (fun σ' => ∀ vs, tgB vs t = true → wipe σ' vs = wipe σ vs) Qm Q
noncomputable def tB0 (c : Cx0) (Γ : Cal) (X : Cx) : Oe → TT
  | .none => tYes
  | .some m => fun σ H Q => ∃ L Z ρ G K, Rep c.ca X.K L Z σ H ρ G ∧ (∀ a, L a → Z a) ∧ wpE c.P Γ m ρ G Xf (fun r ρ1 G1 => tstK r ρ1 G1 fun k => K r k ρ1 G1) ∧ EndT c X L Z σ H (fp σ ρ G) K Q
/-- the same readings at a block's context -/
theorem e_blk {X' : Cx} (hK : X'.K = X.K) (ew : c.ca.w = X'.w) (g : PE X' e1 (tE c Γ X' a)) : PE X' e1 (tE0 c Γ X a) := PE.imp g fun σ H Q ⟨L, Z, ρ, G, Qm, R, hL, w, en⟩ => ⟨L, Z, ρ, G, Xf, Qm, by rw [hK]; exact R, hL, w, tkF ew, by unfold EndE at en ⊢; rw [hK]; exact en⟩
theorem g_blk {X' : Cx} {t : T} (hK : X'.K = X.K) (ew : c.ca.w = X'.w) (g : PG X' tg (tT c Γ X' t)) : PG X' tg (tT0 c Γ X t) := PG.imp g fun v σ H Q ⟨L, Z, H0, f0, ρ, G, r, Qm, R, hL, hx, w, en⟩ => ⟨L, Z, H0, f0, ρ, G, r, Xf, Qm, by rw [hK]; exact R, hL, hx, w, tkF ew, by unfold EndG at en ⊢; rw [hK]; exact en⟩
theorem t_blk {X' : Cx} (hK : X'.K = X.K) (ew : c.ca.w = X'.w) (g : PT X' e1 (tB' c Γ X' a)) : PT X' e1 (tB0 c Γ X (.some a)) := PT.imp g fun σ H Q ⟨L, Z, ρ, G, K, R, hL, w, en⟩ => ⟨L, Z, ρ, G, Xf, K, by rw [hK]; exact R, hL, w, tkF ew, by unfold EndT at en ⊢; rw [hK]; exact en⟩
noncomputable def lcTurn (P : Pg) (Γ : Cal) (elt : E) (t : T) (cc : Oe) : U → Rho → Hh → (Option U → Rho → Hh → Prop) → Prop := fun x ρ2 G2 K => asgT P Γ t (.u x) ρ2 G2 Xf fun ρ3 G3 =>
  wpO P Γ cc ρ3 G3 Xf fun rc ρ4 G4 => cndK rc ρ4 G4 (wpE P Γ elt ρ4 G4 Xf fun ry ρ5 G5 => toU ry ρ5 fun y ρ6 => K (some y) ρ6 G5) (K none ρ4 G4)
/-- the turns of a comprehension, for items us that stand as long as S -/
theorem lc_core0 {elt : E} {t : T} {cc : Oe} (ht : tgB own t = true) {J : L2.It} {us : List U} {S : Hp → (Addr → Prop) → Prop} {ck : Rho → Hh → Prop} {Z1 : Addr → Prop} {Kq : List U → Rho → Hh → Prop} (hL1 : ∀ a, L a → Z1 a) (R1 : Rep c.ca X.K L Z1 σ H1 ρ1 G1) (hD : H1 D = none) (hp : plainsS ρ1 own = true) (wk : Wk X.K J us S) (hsz : us.length ≤ sizeLine)
    (hS : ∀ H2 ρ2 G2, Ext H1 (fp σ ρ1 G1) H2 (fp (wipe σ own) ρ2 G2) → Rep c.ca X.K L (Or2 Z1 (One D)) (wipe σ own) H2 ρ2 G2 → ck ρ2 G2 → S H2 (Or2 (fp (wipe σ own) ρ2 G2) (Or2 Z1 (One D)))) (hck : ck (wipeL ρ1 own) G1)
    (fin0 : ∀ acc ρ2 G2 H2 vs, Ext H1 (fp σ ρ1 G1) H2 (fp σ ρ2 G2) → Rep c.ca X.K L (Or2 Z1 (One D)) σ H2 ρ2 G2 → H2 D = some (.lst vs) → RepUs X.K H2 (Or2 (fp σ ρ2 G2) (Or2 Z1 (One D))) acc vs → Kq acc ρ2 G2 → Q (.ref D) H2)
    (w2 : lcI own ck (lcTurn c.P Γ elt t cc) us [] (wipeL ρ1 own) G1 (fun acc ρ' G' => backK ρ1 ρ' own fun ρ2 => Kq acc ρ2 G')) :
    ∃ W : Nat → Nat → Hp → Prop, (∃ m, W 0 m (upd H1 D (.lst []))) ∧ ∀ i m H, W i m H →
      (J.stop i H ∧ Q (.ref D) H) ∨ (J.go i H ∧ ∃ Nx : Hp → Prop, (∀ H', Nx H' → ∃ m', m' < m ∧ W (i + 1) m' H') ∧ ∀ x H', J.yld i H x H' → tT0 c Γ X t x (wipe σ own) H' fun σ2 H2 => wipe σ2 own = wipe σ own ∧ tB0 c Γ X cc σ2 H2 fun b H3 =>
        if b = true then tE0 c Γ X elt σ2 H3 fun y H4 => ∃ acc, H4 D = some (.lst acc) ∧ acc.length < sizeLine ∧ Nx (upd H4 D (.lst (acc ++ [y]))) else Nx H3) := by
  have nZ1 : ¬ Z1 D := fun z => by
    obtain ⟨_, o, e⟩ := R1.zd D z
    rw [hD] at e; cases e
  have nL : ¬ L D := fun z => nZ1 (hL1 D z)
  have hpl := plains_out hp
  have keepD : ∀ a o, H1 a = some o → a ≠ D := fun a o e z => by rw [z, hD] at e; cases e
  obtain ⟨Rw, subw⟩ := R1.wiped (vs := own)
  have hup : ∀ a o, H1 a = some o → upd H1 D (.lst []) a = some o := fun a o e => by rw [upd_ne (keepD a o e)]; exact e
  have Rw1 : Rep c.ca X.K L (Or2 Z1 (One D)) (wipe σ own) (upd H1 D (.lst [])) (wipeL ρ1 own) G1 := Rw.more hup fun a e => by
    have e' : a = D := e
    subst e'
    exact ⟨hD, _, upd_same⟩
  refine ⟨fun i m H2 => m = us.length - i ∧ i ≤ us.length ∧ ∃ ρ2 G2 acc vs, Ext H1 (fp σ ρ1 G1) H2 (fp (wipe σ own) ρ2 G2) ∧ Rep c.ca X.K L (Or2 Z1 (One D)) (wipe σ own) H2 ρ2 G2 ∧ ck ρ2 G2 ∧ acc.length ≤ i ∧ H2 D = some (.lst vs) ∧ RepUs X.K H2 (Or2 (fp (wipe σ own) ρ2 G2) (Or2 Z1 (One D))) acc vs ∧
      ρ2.length = ρ1.length ∧ lcI own ck (lcTurn c.P Γ elt t cc) (us.drop i) acc ρ2 G2 (fun acc ρ' G' => backK ρ1 ρ' own fun ρ2 => Kq acc ρ2 G'),
    ⟨us.length, by simp, Nat.zero_le _, wipeL ρ1 own, G1, [], [], fun a o e n => ⟨hup a o e, fun z => n (subw a z)⟩, Rw1, hck, Nat.zero_le _, upd_same, by simp [RepUs], wipeL_length, w2⟩, ?_⟩
  rintro i m H2 ⟨rfl, hi, ρ2, G2, acc, vs, hx2, R2, hck2, hacc, hHD, qacc, hlen, w3⟩
  have s2 := hS H2 ρ2 G2 hx2 R2 hck2
  by_cases hlt : i < us.length
  · refine .inr ⟨wk.goes hlt s2, _, fun H' h => h, fun x H3 yl => ?_⟩
    rw [List.drop_eq_getElem_cons hlt] at w3
    simp only [lcI_nil, lcI_cons] at w3
    obtain ⟨hk, qx⟩ := wk.yields (List.getElem?_eq_getElem hlt) s2 (fun a z => z.elim (fun z => by obtain ⟨o, e, _⟩ := R2.mut z; exact ⟨o, e⟩) fun z => (R2.zd a z).2) yl
    have hx3 : Ext H2 (fp (wipe σ own) ρ2 G2) H3 (fp (wipe σ own) ρ2 G2) := fun a o e n => ⟨hk a o e, n⟩
    refine ⟨L, Or2 Z1 (One D), H3, fp (wipe σ own) ρ2 G2, ρ2, G2, .u us[i], _, ⟨?_, ?_, fun p z => z.elim⟩, fun a z => .inl (hL1 a z), Ext.refl _ _, w3, fun σ4 ρ4 G4 H4 fr4 hx4 R4 w4 => ?_⟩
    · rw [hd_u, or2_false]; exact R2.heapExt hk
    · rw [hd_u, or2_false]; exact qx
    have hw4 : wipe σ4 own = wipe σ own := by rw [fr4 own ht, wipe_wipe]
    refine ⟨hw4, ?_⟩
    have hx34 := hx3.trans hx4
    have hx24 : Ext H1 (fp σ ρ1 G1) H4 (fp σ4 ρ4 G4) := hx2.trans hx34
    have q4 : RepUs X.K H4 (Or2 (fp σ4 ρ4 G4) (Or2 Z1 (One D))) acc vs := RepUs.ext hx34.keepZ _ qacc
    have D4 : H4 D = some (.lst vs) := (hx34 D _ hHD (R2.zd D (.inr rfl)).1).1
    -- a turn's end
    have fin : ∀ (o : Option U) (ρ5 : Rho) (G5 : Hh) (H5 : Hp) (acc5 : List U) (vs5 : List V), Ext H1 (fp σ ρ1 G1) H5 (fp σ4 ρ5 G5) → Rep c.ca X.K L (Or2 Z1 (One D)) σ4 H5 ρ5 G5 → H5 D = some (.lst vs5) → RepUs X.K H5 (Or2 (fp σ4 ρ5 G5) (Or2 Z1 (One D))) acc5 vs5 → acc5.length ≤ i + 1 →
        (wipeK ρ5 own fun ρ2 => ck ρ2 G5 ∧ lcI own ck (lcTurn c.P Γ elt t cc) (us.drop (i + 1)) acc5 ρ2 G5 (fun acc ρ' G' => backK ρ1 ρ' own fun ρ2 => Kq acc ρ2 G')) →
        ∃ m', m' < us.length - i ∧ m' = us.length - (i + 1) ∧ i + 1 ≤ us.length ∧ ∃ ρ2 G2 acc vs, Ext H1 (fp σ ρ1 G1) H5 (fp (wipe σ own) ρ2 G2) ∧ Rep c.ca X.K L (Or2 Z1 (One D)) (wipe σ own) H5 ρ2 G2 ∧ ck ρ2 G2 ∧ acc.length ≤ i + 1 ∧ H5 D = some (.lst vs) ∧ RepUs X.K H5 (Or2 (fp (wipe σ own) ρ2 G2) (Or2 Z1 (One D))) acc vs ∧
          ρ2.length = ρ1.length ∧ lcI own ck (lcTurn c.P Γ elt t cc) (us.drop (i + 1)) acc ρ2 G2 (fun acc ρ' G' => backK ρ1 ρ' own fun ρ2 => Kq acc ρ2 G') := fun o ρ5 G5 H5 acc5 vs5 hx5 R5 D5 q5 ha5 w5 => by
      obtain ⟨hck5, w6⟩ := wipeK_out w5
      obtain ⟨R6, sub6⟩ := R5.wiped (vs := own)
      rw [hw4] at R6 sub6
      refine ⟨us.length - (i + 1), by omega, rfl, hlt, wipeL ρ5 own, G5, acc5, vs5, fun a o e n => ⟨(hx5 a o e n).1, fun z => (hx5 a o e n).2 (sub6 a z)⟩, R6, hck5, ha5, D5, RepUs.ext (Ext.sub fun a z => z.elim (fun z => .inl (sub6 a z)) .inr) _ q5, ?_, w6⟩
      have l1 := R1.len
      have l2 := R6.len
      rw [wipe_length] at l2
      omega
    -- the item
    have item : ∀ (ρ5 : Rho) (G5 : Hh) (H5 : Hp) (Z5 : Addr → Prop), (∀ a, Or2 Z1 (One D) a → Z5 a) → Ext H4 (fp σ4 ρ4 G4) H5 (fp σ4 ρ5 G5) → Rep c.ca X.K L Z5 σ4 H5 ρ5 G5 →
        (wpE c.P Γ elt ρ5 G5 Xf fun ry ρ5 G5 => toU ry ρ5 fun y ρ6 => wipeK ρ6 own fun ρ2 => ck ρ2 G5 ∧ lcI own ck (lcTurn c.P Γ elt t cc) (us.drop (i + 1)) (acc ++ [y]) ρ2 G5 (fun acc ρ' G' => backK ρ1 ρ' own fun ρ2 => Kq acc ρ2 G')) →
        tE0 c Γ X elt σ4 H5 fun y H4 => ∃ acc, H4 D = some (.lst acc) ∧ acc.length < sizeLine ∧ ∃ m', m' < us.length - i ∧ m' = us.length - (i + 1) ∧ i + 1 ≤ us.length ∧ ∃ ρ2 G2 acc' vs, Ext H1 (fp σ ρ1 G1) (upd H4 D (.lst (acc ++ [y]))) (fp (wipe σ own) ρ2 G2) ∧ Rep c.ca X.K L (Or2 Z1 (One D)) (wipe σ own) (upd H4 D (.lst (acc ++ [y]))) ρ2 G2 ∧ ck ρ2 G2 ∧ acc'.length ≤ i + 1 ∧ (upd H4 D (.lst (acc ++ [y]))) D = some (.lst vs) ∧ RepUs X.K (upd H4 D (.lst (acc ++ [y]))) (Or2 (fp (wipe σ own) ρ2 G2) (Or2 Z1 (One D))) acc' vs ∧
          ρ2.length = ρ1.length ∧ lcI own ck (lcTurn c.P Γ elt t cc) (us.drop (i + 1)) acc' ρ2 G2 (fun acc ρ' G' => backK ρ1 ρ' own fun ρ2 => Kq acc ρ2 G') := fun ρ5 G5 H5 Z5 hz5 hx5 R5 w5 => by
      refine ⟨L, Or2 Z1 (One D), ρ5, G5, _, R5.less hz5, fun a z => .inl (hL1 a z), w5, fun ry ρ6 G6 y H6 hx6 R6 w6 => ?_⟩
      have hx46 := hx5.trans hx6
      have D6 : H6 D = some (.lst vs) := (hx46 D _ D4 (R4.zd D (.inr rfl)).1).1
      have q6 : RepUs X.K H6 (Or2 (fp σ4 ρ6 G6) (Or2 Z1 (One D))) acc vs := RepUs.ext hx46.keepZ _ q4
      have hds : Hds [ry] [y] = Hd ry y := or2_false
      obtain ⟨us7, ρ7, k7, R7, q7, sub7⟩ := toUs_ok (rs := [ry]) (vs := [y]) (K0 := fun us7 ρ7 => match us7 with
        | [u] => wipeK ρ7 own fun ρ2 => ck ρ2 G6 ∧ lcI own ck (lcTurn c.P Γ elt t cc) (us.drop (i + 1)) (acc ++ [u]) ρ2 G6 (fun acc ρ' G' => backK ρ1 ρ' own fun ρ2 => Kq acc ρ2 G')
        | _ => False) (by rw [hds]; exact R6.rep) ⟨y, [], rfl, by rw [hds]; exact R6.val, rfl⟩ ⟨fun a _ z => z, trivial⟩ (fun p z => by rw [hds] at z; exact (R6.new p z).2) w6
      obtain ⟨u, eu, qu⟩ := repUs_one q7
      subst eu
      have hl := qacc.length
      refine ⟨vs, D6, by omega, ?_⟩
      obtain ⟨R8, hx8⟩ := R7.updZ (D := D) (o := .lst (vs ++ [y])) (.inr rfl) nL
      have q8 : RepUs X.K H6 (Or2 (fp σ4 ρ7 G6) (Or2 Z1 (One D))) (acc ++ [u]) (vs ++ [y]) := (RepUs.ext (Ext.sub fun a z => z.elim (fun z => .inl (sub7 a z)) .inr) _ q6).append q7
      refine fin (some u) ρ7 G6 _ (acc ++ [u]) (vs ++ [y]) (fun a o e n => ?_) R8 upd_same (RepUs.ext hx8 _ q8) (by rw [List.length_append]; simp; omega) k7
      obtain ⟨h1, h2⟩ := (hx24.trans hx46) a o e n
      exact ⟨by rw [upd_ne (keepD a o e)]; exact h1, fun z => h2 (sub7 a z)⟩
    cases cc with
    | none =>
      simp only [wpO] at w4
      unfold tB0 tYes
      refine iteT ?_
      exact item ρ4 G4 H4 _ (fun _ z => z) (Ext.refl _ _) R4 w4
    | some m =>
      simp only [wpO] at w4
      refine ⟨L, Or2 Z1 (One D), ρ4, G4, fun r b ρ4 G4 => Br b (wpE c.P Γ elt ρ4 G4 Xf fun ry ρ5 G5 => toU ry ρ5 fun y ρ6 => wipeK ρ6 own fun ρ2 => ck ρ2 G5 ∧ lcI own ck (lcTurn c.P Γ elt t (.some m)) (us.drop (i + 1)) (acc ++ [y]) ρ2 G5 (fun acc ρ' G' => backK ρ1 ρ' own fun ρ2 => Kq acc ρ2 G'))
        (wipeK ρ4 own fun ρ2 => ck ρ2 G4 ∧ lcI own ck (lcTurn c.P Γ elt t (.some m)) (us.drop (i + 1)) acc ρ2 G4 (fun acc ρ' G' => backK ρ1 ρ' own fun ρ2 => Kq acc ρ2 G')), R4, fun a z => .inl (hL1 a z), ?_, fun r u k ρ5 G5 H5 Z5 hz5 hx5 R5 e1 e2 q => ?_⟩
      · exact w4
      · cases k with
        | true =>
          refine iteT ?_
          exact item ρ5 G5 H5 Z5 hz5 hx5 R5 q
        | false =>
          refine iteF ?_
          have R5' := R5.less hz5
          exact fin none ρ5 G5 H5 acc vs (hx24.trans hx5) R5' ((hx5 D _ D4 (R4.zd D (.inr rfl)).1).1) (RepUs.ext hx5.keepZ _ q4) (by omega) q
  · have e : i = us.length := by omega
    subst e
    rw [List.drop_length] at w3
    simp only [lcI_nil, lcI_cons] at w3
    have k4 := backK_out w3
    obtain ⟨R4, sub4⟩ := R2.back (ρ0 := ρ1) hlen.symm fun j hj sv e => by
      obtain ⟨x, ex⟩ := hpl j hj sv e
      subst ex
      obtain ⟨w, e1, q⟩ := R1.slot j _ e
      refine ⟨x, w, rfl, e1, RepU.ext ?_ x q⟩
      exact hx2.withZ fun p z => .inl (by rw [show p = D from z]; exact hD)
    exact .inl ⟨wk.stops s2, fin0 acc (backL ρ1 ρ2 own) G2 H2 vs (fun a o e n => ⟨(hx2 a o e n).1, fun z => (hx2 a o e n).2 (sub4 a z)⟩) R4 hHD (RepUs.ext (Ext.sub fun a z => z.elim (fun z => .inl (sub4 a z)) .inr) _ qacc) k4⟩
/-- a comprehension by its turns -/
theorem lc_go {elt : E} {t : T} {it : It} {cc : Oe} (ht : tgB own t = true) (h : tE c Γ X (.lc elt t it cc own) σ H Q) : tLc (tI c Γ X it) (tT0 c Γ X t) (tB0 c Γ X cc) (tE0 c Γ X elt) own σ H Q := by
  obtain ⟨L, Z, ρ, G, Xm, Qm, R, hL, w, tk, en⟩ := h
  simp only [wpE] at w
  refine ⟨L, Z, ρ, G, Xm, _, R, hL, w, tk, fun src ρ1 G1 J H1 Z1 hz hx1 R1 ok w1 => fun D hD => ?_⟩
  have hL1 : ∀ a, L a → Z1 a := fun a z => hz a (hL a z)
  have nZ1 : ¬ Z1 D := fun z => by
    obtain ⟨_, o, e⟩ := R1.zd D z
    rw [hD] at e; cases e
  have nL : ¬ L D := fun z => nZ1 (hL1 D z)
  obtain ⟨hp, w1⟩ := w1
  have hpl := plains_out hp
  have keepD : ∀ a o, H1 a = some o → a ≠ D := fun a o e z => by rw [z, hD] at e; cases e
  -- the loop, for items us that stand as long as S
  have core : ∀ (us : List U) (S : Hp → (Addr → Prop) → Prop) (ck : Rho → Hh → Prop), Wk X.K J us S → us.length ≤ sizeLine →
      (∀ H2 ρ2 G2, Ext H1 (fp σ ρ1 G1) H2 (fp (wipe σ own) ρ2 G2) → Rep c.ca X.K L (Or2 Z1 (One D)) (wipe σ own) H2 ρ2 G2 → ck ρ2 G2 → S H2 (Or2 (fp (wipe σ own) ρ2 G2) (Or2 Z1 (One D)))) → ck (wipeL ρ1 own) G1 →
      lcI own ck (lcTurn c.P Γ elt t cc) us [] (wipeL ρ1 own) G1 (fun acc ρ' G' => backK ρ1 ρ' own fun ρ2 => Qm (.tmp (.lst acc)) ρ2 G') →
      ∃ W : Nat → Nat → Hp → Prop, (∃ m, W 0 m (upd H1 D (.lst []))) ∧ ∀ i m H, W i m H →
        (J.stop i H ∧ Q (.ref D) H) ∨ (J.go i H ∧ ∃ Nx : Hp → Prop, (∀ H', Nx H' → ∃ m', m' < m ∧ W (i + 1) m' H') ∧ ∀ x H', J.yld i H x H' → tT0 c Γ X t x (wipe σ own) H' fun σ2 H2 => wipe σ2 own = wipe σ own ∧ tB0 c Γ X cc σ2 H2 fun b H3 =>
          if b = true then tE0 c Γ X elt σ2 H3 fun y H4 => ∃ acc, H4 D = some (.lst acc) ∧ acc.length < sizeLine ∧ Nx (upd H4 D (.lst (acc ++ [y]))) else Nx H3) := fun us S ck wk hsz hS hck w2 => by
    refine lc_core0 (Kq := fun acc ρ2 G' => Qm (.tmp (.lst acc)) ρ2 G') ht hL1 R1 hD hp wk hsz hS hck (fun acc ρ2 G2 H2 vs hxe R4 hHD qa k4 => ?_) w2
    have hHd : Hd (.tmp (.lst acc)) (.ref D) = One D := by
      funext a
      exact propext ⟨fun e => (V.ref.inj e).symm, fun e => by rw [show a = D from e]; rfl⟩
    refine en (.tmp (.lst acc)) ρ2 G2 (.ref D) H2 (hx1.trans hxe) ⟨?_, ?_, fun p z => ?_⟩ k4
    · rw [hHd]
      exact R4.less fun a z => z.elim (fun z => .inl (hz a z)) .inr
    · rw [hHd]
      exact ⟨D, .lst vs, rfl, hHD, vs, rfl, RepUs.ext (Ext.sub fun a z => z.elim .inl fun z => .inr (z.elim (fun z => .inl (hz a z)) .inr)) _ qa⟩
    · have e : p = D := (V.ref.inj z).symm
      subst e
      exact ⟨newback hx1 (.inl hD), fun z => nZ1 (hz p z)⟩
  cases src with
  | fix us =>
    obtain ⟨S, wk, st⟩ := ok
    obtain ⟨hsz, w2⟩ := w1
    refine core us S (fun _ _ => True) wk hsz (fun H2 ρ2 G2 hx2 R2 _ => ?_) trivial (wipeK_out w2)
    have := st H2 (Or2 (fp (wipe σ own) ρ2 G2) (One D)) fun a o e n => ⟨(hx2 a o e n).1, fun z => z.elim (hx2 a o e n).2 fun z => keepD a o e z⟩
    have e : Or2 (Or2 (fp (wipe σ own) ρ2 G2) (One D)) Z1 = Or2 (fp (wipe σ own) ρ2 G2) (Or2 Z1 (One D)) := by
      funext a
      exact propext ⟨fun z => z.elim (fun z => z.elim .inl fun z => .inr (.inr z)) fun z => .inr (.inl z), fun z => z.elim (fun z => .inl (.inl z)) fun z => z.elim .inr fun z => .inl (.inr z)⟩
    rwa [e] at this
  | heap p uu us =>
    obtain ⟨hg, wk⟩ := ok
    obtain ⟨hsz, w2⟩ := w1
    refine core us _ (fun _ G' => G' p = some (.con uu)) wk hsz (fun H2 ρ2 G2 hx2 R2 hck => ?_) hg (wipeK_out w2)
    obtain ⟨ho, e1, q⟩ := R2.heap p _ hck
    exact ⟨_, vw_ofC e1 q⟩
  | slot i uu us =>
    obtain ⟨p, hs1, hs2, _, wk⟩ := ok
    obtain ⟨hsz, w2⟩ := w1
    have hi : i ∉ own := fun z => by
      obtain ⟨x, e⟩ := hpl i z _ hs1
      cases e
    refine core us _ (fun ρ' _ => ρ'[i]? = some (some (.own uu))) wk hsz (fun H2 ρ2 G2 hx2 R2 hck => ?_) ?_ (wipeK_out w2)
    · obtain ⟨v, e1, p2, o, e2, e3, q⟩ := R2.slot i _ hck
      rw [wipe_out hi, hs2] at e1
      cases e1
      cases e2
      exact ⟨_, vw_ofC e3 q⟩
    · rw [wipeL_out hi]; exact hs1
end
section
variable {c : Cx0} {n : Nat} {Γ : Cal} {X : Cx} {K : Ck} {L Z Z' N : Addr → Prop} {σ : L2.St} {H H1 H2 : Hp} {ρ ρ0 ρ1 ρ2 : Rho} {G G1 G2 : Hh} {f f1 ex : Addr → Prop} {x y v : V} {u w : U} {Qm : Kc} {a b d : E} {e1 e2 e3 tg : Expr} {pos p2 : Pos} {r : R} {Q : VK} {ca : Cs} {Kf : PySem.W.Frag} {vs own : List Nat} {D : Addr}
/-- the dict is locked behind the reading of e -/
noncomputable def iKeysU (X : Cx) (td : TE) : TI := fun σ H R => td σ H fun v H1 => ∃ (d : Addr) (kvs : List (Key × V)), v = .ref d ∧ ((∃ od, H1 d = some (.frz od (.dK kvs)) ∧ R (Itk d od kvs) H1) ∨
  (H1 d = some (.dK kvs) ∧ ∀ od, (∀ o' u', X.H_0 d ≠ some (.frz o' u')) → R (Itk d od kvs) (upd H1 d (.frz od (.dK kvs)))))
theorem pi_keysU {e : Expr} {td : TE} (he : PE X e td) : PI X tg e (iKeysU X td) := by
  refine ⟨fun pins s σ H R I h => ?_⟩
  refine thn (he.run pins s σ H _ I h) fun u s1 ⟨x, H1, I1, rx, d, kvs, ex, q⟩ => ?_
  subst ex
  obtain rfl : u = Value.ref d := rx
  rcases q with ⟨o, hd, q⟩ | ⟨hd, q⟩
  · obtain ⟨hs, hgd, hx, es, ep, vs, hdt, hsz, kv, hm⟩ := I1.frzK hd
    refine iter_keys hs hgd hx hdt (pi_one (tk := s1.toks) I1 _ (turn_keys _ hdt) ⟨_, Heap.get?_push_size _ rfl, rfl, ?_⟩ q)
    rw [hsz] <;> rfl
  · have nf := I1.nofrz hd trivial
    obtain ⟨o, I2⟩ := I1.lock hd trivial
    obtain ⟨hs, hgd, hx, es, ep, vs, hdt, hsz, kv, hm⟩ := I2.frzK (d := d) upd_same
    refine iter_keys hs hgd hx hdt (pi_one (tk := s1.toks) I2 _ (turn_keys _ hdt) ⟨_, Heap.get?_push_size _ rfl, rfl, ?_⟩ (q o nf))
    rw [hsz] <;> rfl
/-- unlocked in the end -/
noncomputable def Unl (X : Cx) (H' : Hp) (P : Hp → Prop) : Prop := P H' ∨ ∃ (p : Addr) (od : Obj) (kvs : List (Key × V)), (∀ o' u', X.H_0 p ≠ some (.frz o' u')) ∧ H' p = some (.frz od (.dK kvs)) ∧ P (upd H' p (.dK kvs))
theorem Unl.out {pins : List (Addr × Obj)} {s : Shared} {P : Hp → Prop} (I : Inv X pins σ H s) (h : Unl X H P) : ∃ H', Inv X pins σ H' s ∧ P H' := by
  rcases h with h | ⟨p, od, kvs, h1, h2, h3⟩
  · exact ⟨H, I, h⟩
  · exact ⟨_, I.unlock h2 h1, h3⟩
theorem pe_unl {e : Expr} {t : TE} (h : PE X e t) : PE X e (fun σ H Q => t σ H fun v H' => Unl X H' (Q v)) := by
  refine ⟨fun pins s σ H Q I hw => ?_⟩
  refine thn (h.run pins s σ _ _ I hw) fun v s1 ⟨x, H1, I1, r, q⟩ => ?_
  obtain ⟨H2, I2, q⟩ := q.out I1
  exact ⟨x, H2, I2, r, q⟩
theorem ps_unl {st : Stmt} {t : TS} (h : PS X st t) : PS X st (fun D σ H => t ⟨fun σ' H' => Unl X H' (D.nx σ'), fun v H' => Unl X H' (D.rt v), fun σ' H' => Unl X H' (D.bk σ'), fun σ' H' => Unl X H' (D.ct σ')⟩ σ H) := by
  refine ⟨fun pins s σ H D I hw => ?_⟩
  refine thn (h.run pins s σ _ _ I hw) fun f s1 q => ?_
  cases f with
  | next => obtain ⟨σ', H', I2, q⟩ := q; obtain ⟨H2, I3, q⟩ := q.out I2; exact ⟨σ', _, I3, q⟩
  | brk => obtain ⟨σ', H', I2, q⟩ := q; obtain ⟨H2, I3, q⟩ := q.out I2; exact ⟨σ', _, I3, q⟩
  | cont => obtain ⟨σ', H', I2, q⟩ := q; obtain ⟨H2, I3, q⟩ := q.out I2; exact ⟨σ', _, I3, q⟩
  | ret v => obtain ⟨x, σ', H', I2, r, q⟩ := q; obtain ⟨H2, I3, q⟩ := q.out I2; exact ⟨x, σ', _, I3, r, q⟩
theorem Ext.unlock {p : Addr} {od : Obj} {kvs : List (Key × V)} {H' : Hp} {f' : Addr → Prop} (hp : H p = some (.dK kvs)) (nf : ¬ f p) (hx : Ext (upd H p (.frz od (.dK kvs))) f H' f') : H' p = some (.frz od (.dK kvs)) ∧ Ext H f (upd H' p (.dK kvs)) f' := by
  obtain ⟨h1, h2⟩ := hx p _ upd_same nf
  refine ⟨h1, fun a o e n => ?_⟩
  by_cases z : a = p
  · subst z
    rw [hp] at e; cases e
    exact ⟨upd_same, h2⟩
  · obtain ⟨h3, h4⟩ := hx a o (by rw [upd_ne z]; exact e) n
    exact ⟨by rw [upd_ne z]; exact h3, h4⟩
/-- where the dict lies -/
theorem keysK_out {K0 : List U → Rho → Prop} (R : RepR c.ca X.K L Z σ H f H1 ρ1 G1 r v) (h : keysK r ρ1 K0) : ∃ (p : Addr) (kvs : List (Key × V)) (ρ2 : Rho), v = .ref p ∧ Rd H1 p (.dK kvs) ∧ ¬ fp σ ρ2 G1 p ∧ Rep c.ca X.K L Z σ H1 ρ2 G1 ∧ (∀ a, fp σ ρ2 G1 a → fp σ ρ1 G1 a) ∧ (kvs.map fun q => kKey q.1).all goodU = true ∧ K0 (kvs.map fun q => kKey q.1) ρ2 := by
  have hv := R.val
  have R0 : Rep c.ca X.K L Z σ H1 ρ1 G1 := R.rep.less fun a z => .inl z
  cases r with
  | u x =>
    cases x <;> try exact h.elim
    have q : RepU X.K H1 (Or2 (fp σ ρ1 G1) (Or2 Z (Hd (.u (.dic _ _)) v))) (.dic _ _) v := hv
    simp only [RepU] at q
    obtain ⟨p, kvs, e, nf, hrd, e2, _⟩ := q
    subst e2
    exact ⟨p, kvs, ρ1, e, hrd, fun z => nf (.inl z), R0, fun _ z => z, h.1, h.2⟩
  | tmp x =>
    cases x <;> try exact h.elim
    obtain ⟨p, o, e, e1, kvs, e2, e3, _⟩ := hv
    subst e e2 e3
    exact ⟨p, kvs, ρ1, rfl, .inl e1, (R.rep.zd p (.inr rfl)).1, R0, fun _ z => z, h.1, h.2⟩
  | lv i =>
    have hs : σ[i]? = some (some v) := hv
    simp only [keysK] at h
    split at h
    · rename_i x hi
      cases x <;> try exact h.elim
      obtain ⟨hg, h⟩ := h
      obtain ⟨hi2, h⟩ := setK_lt h
      obtain ⟨R2, qf, sub⟩ := R0.freeze hi hs
      simp only [RepU] at qf
      obtain ⟨p, kvs, e, nf, hrd, e2, _⟩ := qf
      subst e2
      exact ⟨p, kvs, _, e, hrd, fun z => nf (.inl z), R2, sub, hg, h⟩
    · rename_i t2 x hi
      cases x <;> try exact h.elim
      obtain ⟨v', hv', q⟩ := R0.slot i _ hi
      rw [hs] at hv'
      cases hv'
      obtain ⟨e, ⟨nf, _⟩, o, hrd, q⟩ := q
      obtain ⟨kvs, e2, e3, _⟩ := q
      subst e2 e3
      exact ⟨t2, kvs, ρ1, e, hrd, nf, R0, fun _ z => z, h.1, h.2⟩
    · exact h.elim
  | exc k => exact h.elim
theorem Unl.yes {P : Hp → Prop} {p : Addr} {od : Obj} {kvs : List (Key × V)} {H' : Hp} (h1 : ∀ o' u', X.H_0 p ≠ some (.frz o' u')) (h2 : H' p = some (.frz od (.dK kvs))) (h3 : P (upd H' p (.dK kvs))) : Unl X H' P := .inr ⟨p, od, kvs, h1, h2, h3⟩
/-- a comprehension over a dict's keys -/
theorem lck_go {elt : E} {t : T} {cc : Oe} (ht : tgB own t = true) (h : tE c Γ X (.lck elt t a cc own) σ H Q) : tLc (iKeysU X (tE c Γ X a)) (tT0 c Γ X t) (tB0 c Γ X cc) (tE0 c Γ X elt) own σ H fun v H' => Unl X H' (Q v) := by
  obtain ⟨L, Z, ρ, G, Xm, Qm, R, hL, w, tk, en⟩ := h
  simp only [wpE] at w
  refine ⟨L, Z, ρ, G, Xm, _, R, hL, w, tk, fun r ρ1 G1 v H1 hx1 R1 w1 => ?_⟩
  obtain ⟨p, kvs, ρ2, rfl, hrd, nf, R2, sub, hg, hp, hsz, w2⟩ := keysK_out R1 w1
  refine ⟨p, kvs, rfl, ?_⟩
  have w3 := wipeK_out w2
  have hx2 : Ext H (fp σ ρ G) H1 (fp σ ρ2 G1) := fun a o e n => ⟨(hx1 a o e n).1, fun z => (hx1 a o e n).2 (sub a z)⟩
  -- what is told in the end, where the dict isn't locked
  have told : ∀ {D : Addr} {acc : List U} {ρ3 : Rho} {G3 : Hh} {H3 : Hp} {vs : List V}, H1 D = none → Ext H1 (fp σ ρ2 G1) H3 (fp σ ρ3 G3) → Rep c.ca X.K L (Or2 Z (One D)) σ H3 ρ3 G3 → H3 D = some (.lst vs) → RepUs X.K H3 (Or2 (fp σ ρ3 G3) (Or2 Z (One D))) acc vs → Qm (.tmp (.lst acc)) ρ3 G3 → Q (.ref D) H3 := fun {D acc ρ3 G3 H3 vs} hD hxe R4 hHD qa k4 => by
    have hHd : Hd (.tmp (.lst acc)) (.ref D) = One D := by
      funext a
      exact propext ⟨fun e => (V.ref.inj e).symm, fun e => by rw [show a = D from e]; rfl⟩
    have nZ : ¬ Z D := fun z => by
      obtain ⟨_, o, e⟩ := R2.zd D z
      rw [hD] at e; cases e
    refine en (.tmp (.lst acc)) ρ3 G3 (.ref D) H3 (hx2.trans hxe) ⟨?_, ?_, fun q z => ?_⟩ k4
    · rw [hHd]; exact R4
    · rw [hHd]; exact ⟨D, .lst vs, rfl, hHD, vs, rfl, qa⟩
    · have e : q = D := (V.ref.inj z).symm
      subst e
      exact ⟨newback hx2 (.inl hD), nZ⟩
  rcases hrd with hd | ⟨od, hd⟩
  · refine .inr ⟨hd, fun od hn => fun D hD => ?_⟩
    have hDp : D ≠ p := fun z => by rw [z, upd_same] at hD; cases hD
    have hD1 : H1 D = none := by rw [upd_ne hDp] at hD; exact hD
    have RL := R2.lock (od := od) hd nf
    refine lc_core0 (Q := fun v H' => Unl X H' (Q v)) (Kq := fun acc ρ2 G' => Qm (.tmp (.lst acc)) ρ2 G') ht hL RL hD hp (wk_keys (o := od) hg) hsz (fun H2 ρ3 G3 hx _ _ => (hx p _ upd_same nf).1) trivial (fun acc ρ3 G3 H2 vs hxe R4 hHD qa k4 => ?_) w3
    obtain ⟨h1, h2⟩ := Ext.unlock hd nf hxe
    refine Unl.yes hn h1 (told hD1 h2 (R4.unlock h1) (by rw [upd_ne hDp]; exact hHD) (RepUs.rd (rdk_unlock h1) _ qa) k4)
  · refine .inl ⟨od, hd, fun D hD => ?_⟩
    exact lc_core0 (Q := fun v H' => Unl X H' (Q v)) (Kq := fun acc ρ2 G' => Qm (.tmp (.lst acc)) ρ2 G') ht hL R2 hD hp (wk_keys (o := od) hg) hsz (fun H2 ρ3 G3 hx _ _ => (hx p _ hd nf).1) trivial (fun acc ρ3 G3 H2 vs hxe R4 hHD qa k4 => .inl (told hD hxe R4 hHD qa k4)) w3
/-- a comprehension over the keys of a shared dict -/
theorem lcs_go {elt : E} {t : T} {i : Nat} {cc : Oe} (ht : tgB own t = true) (h : tE c Γ X (.lcs elt t i cc own) σ H Q) : tLc (iKeysU X (tVar i)) (tT0 c Γ X t) (tB0 c Γ X cc) (tE0 c Γ X elt) own σ H fun v H' => Unl X H' (Q v) := by
  obtain ⟨L, Z, ρ, G, Xm, Qm, R, hL, w, tk, en⟩ := h
  simp only [wpE] at w
  cases hs : ρ[i]? with
  | none => rw [hs] at w; exact w.elim
  | some os =>
    rw [hs] at w
    cases os with
    | none => exact w.elim
    | some sv =>
      cases sv with
      | exc a d => exact w.elim
      | fz t2 y => exact w.elim
      | own y => exact w.elim
      | u y =>
        cases y <;> try exact w.elim
        rename_i p
        obtain ⟨v, hv, q⟩ := R.slot i _ hs
        have q' : RepU X.K H (Or2 (fp σ ρ G) Z) (.ref p) v := q
        simp only [RepU] at q'
        subst q'
        simp only at w
        cases hG : G p with
        | none => rw [hG] at w; exact w.elim
        | some o =>
          rw [hG] at w
          cases o with
          | ins k fs => exact w.elim
          | con cy =>
            cases cy <;> try exact w.elim
            rename_i ks ws
            obtain ⟨hg, w⟩ := w
            obtain ⟨hi, w⟩ := setK_lt w
            obtain ⟨hp, hsz, w2⟩ := w
            obtain ⟨ho, hH, kvs, e1, e2, qv⟩ := R.heap p _ hG
            subst e1 e2
            refine ⟨.ref p, hv, p, kvs, rfl, .inr ⟨hH, fun od hn => fun D hD => ?_⟩⟩
            have w3 := wipeK_out w2
            have hDp : D ≠ p := fun z => by rw [z, upd_same] at hD; cases hD
            have hD1 : H D = none := by rw [upd_ne hDp] at hD; exact hD
            have fpp : fp σ ρ G p := .inl ⟨_, hG⟩
            have nZ : ¬ Z p := fun z => (R.zd p z).1 fpp
            have nZD : ¬ Z D := fun z => by
              obtain ⟨_, o, e⟩ := R.zd D z
              rw [hD1] at e; cases e
            obtain ⟨R0, hfp⟩ := R.lend hs hG hH
            have nf0 : ¬ fp σ (ρ.set i (some (.fz p (.dic (kvs.map fun q => kKey q.1) ws)))) (delG G p) p := fun z => ((hfp p).mp z).2 rfl
            have hL0 : ∀ a, Or2 L (One p) a → Or2 Z (One p) a := fun a z => z.imp (hL a) id
            have RL := R0.lock (od := od) hH nf0
            refine lc_core0 (Q := fun v H' => Unl X H' (Q v)) ht hL0 RL hD hp (wk_keys (o := od) hg) hsz (fun H2 ρ3 G3 hx _ _ => (hx p _ upd_same nf0).1) trivial (fun acc ρ3 G3 H2 vs hxe R4 hHD qa k4 => ?_) w3
            obtain ⟨⟨h3, h4⟩, k4⟩ := k4
            obtain ⟨_, k4⟩ := setK_lt k4
            obtain ⟨h1, h2⟩ := Ext.unlock hH nf0 hxe
            have eZ : Or2 (Or2 Z (One p)) (One D) = Or2 (Or2 Z (One D)) (One p) := by
              funext a
              exact propext ⟨fun z => z.elim (fun z => z.elim (fun z => .inl (.inl z)) .inr) fun z => .inl (.inr z), fun z => z.elim (fun z => z.elim (fun z => .inl (.inl z)) .inr) fun z => .inl (.inr z)⟩
            rw [eZ] at R4 qa
            obtain ⟨R5, hf5⟩ := (R4.unlock h1).unlend (fun a z => .inl (hL a z)) (fun z => z.elim nZ fun z => hDp (show p = D from z).symm) h3 h4 upd_same
            have hHd : Hd (.tmp (.lst acc)) (.ref D) = One D := by
              funext a
              exact propext ⟨fun e => (V.ref.inj e).symm, fun e => by rw [show a = D from e]; rfl⟩
            have hxx : Ext H (fp σ ρ G) (upd H2 p (.dK kvs)) (fp σ (ρ3.set i (some (.u (.ref p)))) (put G3 p (.con (.dic (kvs.map fun q => kKey q.1) ws)))) := fun a o e na => by
              have z : a ≠ p := fun z => by subst z; exact na fpp
              obtain ⟨h6, h7⟩ := h2 a o e fun q => na ((hfp a).mp q).1
              exact ⟨h6, fun q => ((hf5 a).mp q).elim h7 z⟩
            refine Unl.yes hn h1 (en (.tmp (.lst acc)) _ _ (.ref D) _ hxx ⟨?_, ?_, fun q z => ?_⟩ k4)
            · rw [hHd]; exact R5
            · rw [hHd]
              refine ⟨D, .lst vs, rfl, by rw [upd_ne hDp]; exact hHD, vs, rfl, RepUs.ext (Ext.sub fun a z => ?_) _ (RepUs.rd (rdk_unlock h1) _ qa)⟩
              exact z.elim (fun z => ((hf5 a).mp z).elim .inl fun z => .inr (.inr z)) fun z => .inr (.inl z)
            · have e : q = D := (V.ref.inj z).symm
              subst e
              exact ⟨.inl hD1, nZD⟩
/-- a loop over a dict's keys -/
theorem s_forx {t : T} {sts : List Stmt} {ms : Ss} (hp : PassesOwn (model X.prog X.w) X.A X.env X.xe) (hc : X.calm = true) (gi : PE X e1 (tE c Γ X a)) (gt : PG X tg (tT c Γ X t)) (g1 : PSs X sts (tSs c Γ X ms)) (hs : ∀ x, foldedSetIterable e1 X.env x = pure x) : PS X (.For tg e1 sts [] pos) (tS c Γ X (.forx t a ms)) := by
  refine PS.imp (ps_unl (ps_for (pos := pos) hp hc (pi_keysU gi) gt g1 hs)) fun D σ H ⟨L, Z, ρ, G, nx, rt, ct, Xm, R, hL, w, tk, en⟩ => ?_
  simp only [wpS] at w
  refine ⟨L, Z, ρ, G, Xm, _, R, hL, w, tk, fun r ρ1 G1 v H1 hx1 R1 w1 => ?_⟩
  obtain ⟨p, kvs, ρ2, rfl, hrd, nf, R2, sub, hg, w2⟩ := keysK_out R1 w1
  refine ⟨p, kvs, rfl, ?_⟩
  have hx2 : Ext H (fp σ ρ G) H1 (fp σ ρ2 G1) := fun a o e n => ⟨(hx1 a o e n).1, fun z => (hx1 a o e n).2 (sub a z)⟩
  have en2 := en.go hx2
  have tk0 : ∀ {L Z H f}, Tk c X L Z H f (fun _ _ _ _ => False) := fun {L Z H f} => ⟨tk.1, Takes.imp tk.2 fun cls d σ2 H2 ⟨k, as, ρ3, G3, h1, h2, h3, h4⟩ => h4.elim⟩
  rcases hrd with hd | ⟨od, hd⟩
  · refine .inr ⟨hd, fun od hn => ?_⟩
    have el := en2.lock (od := od) hd nf
    exact for_core hL (wk_keys (o := od) hg) (R2.lock (od := od) hd nf) tk0 ⟨fun σ' H' ρ' G' hx R k => by obtain ⟨h1, h2⟩ := el.nx σ' H' ρ' G' hx R k; exact Unl.yes hn h1 h2, fun σ' r ρ' G' v H' hx R k => by obtain ⟨h1, h2⟩ := el.rt σ' r ρ' G' v H' hx R k; exact Unl.yes hn h1 h2, fun σ' H' ρ' G' hx R k => by obtain ⟨h1, h2⟩ := el.ct σ' H' ρ' G' hx R k; exact Unl.yes hn h1 h2⟩ (fun σ2 H2 ρ2 G2 hx _ _ => (hx p _ upd_same nf).1) trivial w2
  · refine .inl ⟨od, hd, ?_⟩
    exact for_core hL (wk_keys (o := od) hg) R2 tk0 ⟨fun σ' H' ρ' G' hx R k => .inl (en2.nx σ' H' ρ' G' hx R k), fun σ' r ρ' G' v H' hx R k => .inl (en2.rt σ' r ρ' G' v H' hx R k), fun σ' H' ρ' G' hx R k => .inl (en2.ct σ' H' ρ' G' hx R k)⟩ (fun σ2 H2 ρ2 G2 hx _ _ => (hx p _ hd nf).1) trivial w2
end
end Mp
namespace Mp
open PySem PySem.Spec PyProof.Rows L2
section
variable {c : Cx0} {n : Nat} {Γ : Cal} {X : Cx} {K : Ck} {L Z Z' N : Addr → Prop} {σ : L2.St} {H H1 H2 : Hp} {ρ ρ0 ρ1 ρ2 : Rho} {G G1 G2 : Hh} {f ex : Addr → Prop} {x y v : V} {u w : U} {Qm : Kc} {a b d : E} {e e1 e2 e3 tg : Expr} {pos p2 : Pos} {r : R} {Q : VK} {ca : Cs} {Kf : PySem.W.Frag} {vs own : List Nat} {D : Addr}
/-- a new list or dict is shared from now on -/
theorem Rep.share {p : Addr} {o : HO} (R : Rep ca Kf L (Or2 Z (One p)) σ H ρ G) (hL : ∀ a, L a → Z a) (nz : ¬ Z p) (hp : H p = some o) (q : RepC Kf H (Or2 (fp σ ρ G) (Or2 Z (One p))) ca.w p u o) :
    Rep ca Kf L Z σ H ρ (put G p (.con u)) ∧ G p = none ∧ ∀ a, fp σ ρ (put G p (.con u)) a → fp σ ρ G a ∨ One p a := by
  have np := (R.zd p (.inr rfl)).1
  have gp : G p = none := by
    cases e : G p with
    | none => rfl
    | some o => exact absurd (.inl ⟨o, e⟩) np
  have pat : ∀ {a o}, put G p (.con u) a = some o → (a = p ∧ o = .con u) ∨ G a = some o := fun {a o} h => by
    unfold put at h
    by_cases e : a = p
    · rw [if_pos e] at h
      cases h
      exact .inl ⟨e, rfl⟩
    · rw [if_neg e] at h
      exact .inr h
  have sub : ∀ a, fp σ ρ (put G p (.con u)) a → fp σ ρ G a ∨ One p a := fun a h => by
    rcases h with ⟨o, h⟩ | h
    · rcases pat h with ⟨e, _⟩ | h
      · exact .inr e
      · exact .inl (.inl ⟨o, h⟩)
    · exact .inl (.inr h)
  have hx : Ext H (Or2 (fp σ ρ G) (Or2 Z (One p))) H (Or2 (fp σ ρ (put G p (.con u))) Z) := Ext.sub fun a z => z.elim (fun z => (sub a z).elim .inl fun z => .inr (.inr z)) fun z => .inr (.inl z)
  refine ⟨⟨R.len, fun i sv e => ?_, R.own, fun i u' a e1 e2 => ?_, fun a o' e => ?_, fun a z => ⟨fun h => (sub a h).elim (R.zd a (.inl z)).1 fun h => nz (by rw [← show a = p from h]; exact z), (R.zd a (.inl z)).2⟩⟩, gp, sub⟩
  · obtain ⟨v, e1, q⟩ := R.slot i sv e
    refine ⟨v, e1, ?_⟩
    cases sv with
    | u x => exact RepU.ext hx x q
    | own x =>
      obtain ⟨a, o, h1, h2, q⟩ := q
      exact ⟨a, o, h1, h2, q.ext hx⟩
    | fz t x =>
      obtain ⟨h1, ⟨h2, h3⟩, o, h4, q⟩ := q
      exact ⟨h1, ⟨fun z => (sub t z).elim h2 fun z => nz (by rw [← show t = p from z]; exact hL t h3), h3⟩, o, h4, q.ext hx⟩
    | exc k d => exact RepE.ext hx q
  · have h1 := R.ownG i u' a e1 e2
    unfold put
    by_cases e : a = p
    · subst e
      exact absurd (.inr ⟨i, u', e1, e2⟩) np
    · rw [if_neg e]; exact h1
  · rcases pat e with ⟨e1, e2⟩ | e
    · subst e1 e2
      exact ⟨o, hp, q.ext hx⟩
    · obtain ⟨ho, h1, q⟩ := R.heap a o' e
      exact ⟨ho, h1, q.ext hx⟩
theorem e_new (ga : PE X e1 (tE c Γ X a)) : PE X e1 (tE c Γ X (.new a)) := by
  refine PE.imp ga fun σ H Q ⟨L, Z, ρ, G, Xm, Qm, R, hL, w, tk, en⟩ => ?_
  simp only [wpE] at w
  refine ⟨L, Z, ρ, G, Xm, _, R, hL, w, tk, fun r ρ1 G1 v H1 hx R1 w1 => ?_⟩
  cases r <;> try exact w1.elim
  rename_i cc
  obtain ⟨p, o, e, hp, q⟩ := R1.val
  subst e
  have hHd : Hd (.tmp cc) (.ref p) = One p := by
    funext a
    exact propext ⟨fun e => (V.ref.inj e).symm, fun e => by rw [show a = p from e]; rfl⟩
  have R1' := R1.rep
  rw [hHd] at R1' q
  obtain ⟨n1, n2⟩ := R1.new p rfl
  obtain ⟨R2, gp, sub⟩ := R1'.share hL n2 hp q
  refine en (.u (.ref p)) ρ1 _ (.ref p) H1 (hx.store sub fun a z => by rw [show a = p from z]; exact n1) ⟨?_, ?_, fun p z => z.elim⟩ (w1 p gp)
  · rw [hd_u, or2_false]; exact R2
  · show RepU _ _ _ _ _
    simp only [RepU]
theorem prg_it (C : Ctx c n X K) (hh : K.hot = false) {it : It} {fe : Expr} (hf : K.isNm "list" fe = true) (hp : plainX e1 = true) {te : L2.St → Hp → (Int → Int → Hp → Prop) → Prop} (g : PRg X e1 te)
    (hi : ∀ σ H (Q : VK), tE c Γ X (.itl it) σ H Q → tLstRg te σ H Q) : PE X (.Call fe [e1] [] pos) (tE c Γ X (.itl it)) := by
  obtain ⟨xn, p, rfl, exx, hg⟩ := isNm_out hf
  subst exx
  obtain ⟨g1, g2, g3⟩ := gl_of C hg
  exact PE.imp (pe_listRg (C.calm hh) g1 (C.blt _ (by decide +kernel)) g (star_cons hp)) hi
theorem rgV_rep {ex : Addr → Prop} {lo hi : Int} : RepUs Kf H ex (rangeI lo hi) (rgV lo hi) := by
  unfold rangeI rgV
  generalize List.range (hi - lo).toNat = l
  induction l with
  | nil => simp [RepUs]
  | cons k l ih =>
    simp only [List.map_cons, RepUs]
    exact ⟨_, _, rfl, by simp only [RepU], ih⟩
theorem e_itl (C : Ctx c n X K) (hh : K.hot = false) {fe fr : Expr} {rpos : Pos} (hf : K.isNm "list" fe = true) (hr : K.isNm "range" fr = true) (hp : plainX e1 = true) (ga : PE X e1 (tE c Γ X a)) : PE X (.Call fe [.Call fr [e1] [] rpos] [] pos) (tE c Γ X (.itl (.rng a))) := by
  obtain ⟨xn, p, rfl, exx, hg⟩ := isNm_out hr
  subst exx
  obtain ⟨g1, g2, g3⟩ := gl_of C hg
  refine prg_it C hh hf rfl (prg_1 g1 (C.blt _ (by decide +kernel)) ga (star_cons hp)) fun σ H Q ⟨L, Z, ρ, G, Xm, Qm, R, hL, w, tk, en⟩ => ?_
  simp only [wpE, wpIt] at w
  refine one (S := fun x H1 => ∃ n, x = .int n ∧ RgOk 0 n ∧ ∀ q, H1 q = none → Q (.ref q) (upd H1 q (.lst (rgV 0 n)))) R hL w tk fun ra ρ2 G2 x H2 Z' hz ha hx R2 q w2 => ?_
  cases ra <;> try exact w2.elim
  rename_i z
  cases z <;> try exact w2.elim
  rename_i j
  obtain ⟨hb, hl, w2⟩ := w2
  simp only [Val, RepU] at q
  have hl' : (rangeI 0 j).length = (j - 0).toNat := by simp [rangeI]
  refine ⟨j, q, ⟨by omega, by omega, hb.2, hb.1, by rw [← hl']; exact Nat.le_trans hl (by rw [sizeLine_eq]; decide)⟩, fun p3 h3 => ?_⟩
  exact en.new R2 hz hx h3 (u := .lst (rangeI 0 j)) ⟨_, rfl, rgV_rep⟩ w2
theorem e_itl2 (C : Ctx c n X K) (hh : K.hot = false) {fe fr : Expr} {rpos : Pos} (hf : K.isNm "list" fe = true) (hr : K.isNm "range" fr = true) (hp : plainX e1 = true) (hp2 : plainX e2 = true) (ga : PE X e1 (tE c Γ X a)) (gb : PE X e2 (tE c Γ X b)) : PE X (.Call fe [.Call fr [e1, e2] [] rpos] [] pos) (tE c Γ X (.itl (.rng2 a b))) := by
  obtain ⟨xn, p, rfl, exx, hg⟩ := isNm_out hr
  subst exx
  obtain ⟨g1, g2, g3⟩ := gl_of C hg
  refine prg_it C hh hf rfl (prg_2 g1 (C.blt _ (by decide +kernel)) ga gb (star_cons hp) (star_cons hp2) (by rw [star_cons hp2]; rfl)) fun σ H Q ⟨L, Z, ρ, G, Xm, Qm, R, hL, w, tk, en⟩ => ?_
  simp only [wpE, wpIt] at w
  refine two (S := fun x y H1 => ∃ i j, x = .int i ∧ y = .int j ∧ RgOk i j ∧ ∀ q, H1 q = none → Q (.ref q) (upd H1 q (.lst (rgV i j)))) R hL w tk fun ra rb ρ2 G2 x y H2 Z' hz ha hb hx R2 q q2 w2 => ?_
  cases ra <;> try exact w2.elim
  rename_i z
  cases z <;> try exact w2.elim
  rename_i i
  cases rb <;> try exact w2.elim
  rename_i z
  cases z <;> try exact w2.elim
  rename_i j
  obtain ⟨hbd, hl, w2⟩ := w2
  simp only [Val, RepU] at q q2
  have hl' : (rangeI i j).length = (j - i).toNat := by simp [rangeI]
  refine ⟨i, j, q, q2, ⟨hbd.2.2.2, hbd.2.2.1, hbd.2.1, hbd.1, by rw [← hl']; exact Nat.le_trans hl (by rw [sizeLine_eq]; decide)⟩, fun p3 h3 => ?_⟩
  exact en.new R2 hz hx h3 (u := .lst (rangeI i j)) ⟨_, rfl, rgV_rep⟩ w2
theorem plainT_he {env : Env} (h : plainT e = true) : ∀ whole, isTrue e env whole = (do let v ← whole; standAt e.pos; holding [v] (truthy v)) := by
  intro whole
  cases e <;> first | rfl | (cases h; done) | skip
  rename_i op _ _
  cases op <;> first | rfl | (cases h; done)
theorem folded_of {env : Env} (h : plainX e = true) : ∀ x, foldedSetIterable e env x = pure x := by
  intro x
  cases e <;> first | rfl | cases h
theorem lastMarks_of {o1 o2 : CmpOp} (h : plainX e2 = true) : lastMarks [o1, o2] [e1, e2] = false := nomarkX h
theorem goodB_out {s : List Nat} (h : goodB s = true) : GoodS s := by
  unfold goodB at h
  simp only [Bool.and_eq_true, decide_eq_true_eq, List.all_eq_true] at h
  exact ⟨Nat.le_trans h.1 (by simp [sizeLine]), h.2⟩
theorem units_of (C : Ctx c n X K) : X.A.units + 64 < cLine := C.unt
theorem own_ix {Nn : List Str} : ∀ {own : List Nat}, (ownOf Nn own).map (·.2) = own
  | [] => rfl
  | i :: own => by
    show i :: (ownOf Nn own).map (·.2) = i :: own
    rw [own_ix]
theorem okI_plain {K : Ck} {e : Expr} : ∀ (it : It), ckIt K it e = true → plainX e = true
  | .seq a, h => by simp only [ckIt] at h; exact ck_plain h
  | .rng a, h => by
    simp only [ckIt] at h
    split at h
    · rfl
    · cases h
  | .rng2 a b, h => by
    simp only [ckIt] at h
    split at h
    · rfl
    · cases h
  | .enm a, h => by
    simp only [ckIt] at h
    split at h
    · rfl
    · cases h
  | .zip a b, h => by
    simp only [ckIt] at h
    split at h
    · rfl
    · cases h
  | .rev a, h => by
    simp only [ckIt] at h
    split at h
    · rfl
    · cases h
/-- the context within a comprehension -/
theorem Ctx.inner (C : Ctx c n X K) (hh : K.hot = false) {scope : Scope} {s : Shared} {H : Hp} {Cl : Addr} {cl : List (Str × Addr)} {fpl : List Addr} : Ctx c n (X.blk s H scope (compEnvC scope cl Cl X.env) fpl) (K.inner scope) where
  nm := C.nm
  ww := C.ww
  nd := C.nd
  calm := C.calm
  room := C.room
  cold := C.cold
  unt := C.unt
  frm := fun h => by cases h
  rai := C.rai
  xcl := C.xcl
  xts := C.xts
  exn := fun a d k as e => by rw [C.cold hh] at e; cases e
  scope := by
    show relS scope X.env.scope = relS scope K.sc
    rw [C.scope]
  sto := fun i x h => by
    unfold Ck.sto at h
    simp only [Ck.inner, Bool.and_eq_true, decide_eq_true_eq] at h
    refine ⟨by show X.N[i]? = some x; rw [C.nm]; exact of_decide_eq_true h.1.1, ?_⟩
    have hl := h.2
    unfold locB at hl
    show Loc (relS scope X.env.scope) x ∧ ((scope.names.lookup x == some NameKind.cell) = true ∨ (relS scope X.env.scope).names.lookup x = some .local)
    split at hl
    · rename_i h1
      have := lookup_relS_keep (sc := X.env.scope) (by decide) h1
      exact ⟨.inl this, .inr this⟩
    · rename_i h1
      have := lookup_relS_keep (sc := X.env.scope) (by decide) h1
      exact ⟨.inr this, .inl (by rw [h1]; rfl)⟩
    · cases hl
  own := PassesOwn.never
  blt := C.blt
  fns := C.fns
  fdn := C.fdn
  fdc := C.fdc
  rai1 := C.rai1
  mth := C.mth
  mks := C.mks
  xfd := C.xfd
  kdc := C.kdc
  cst := C.cst
end
theorem e_dic0 {c : Cx0} {Γ : Cal} {X : Cx} {pos : Pos} : PE X (.Dict [] [] pos) (tE c Γ X (.dic .nil .nil)) :=
  PE.imp pe_dnewK fun σ H Q ⟨L, Z, ρ, G, Xm, Qm, R, hL, w, tk, en⟩ p hp => by
    simp only [wpE] at w
    exact en.new R (fun _ z => z) (Ext.refl _ _) hp (u := .dic [] []) ⟨[], rfl, rfl, by simp [RepUs]⟩ w
theorem dit_empty {P : Program} {w : World} {H : Hp} (h : Heap) : ObjOk P w H (h.push { cls := .type "dict", data := .dict #[] }) h.objs.size (.ext (DitR w h.objs.size [])) := ditO_new (P := P) (Heap.DictOfH.new h)
/-- {}, to be a dict with tuples as keys -/
noncomputable def tDNewD (w : World) : TE := fun _ H Q => ∀ p, H p = none → (p == sysModules) = false → Q (.ref p) (upd H p (.ext (DitR w p [])))
theorem pe_dnewD {X : Cx} {pos : Pos} : PE X (.Dict [] [] pos) (tDNewD X.w) := ⟨fun pins s σ H Q I h =>
  wpAny_Dict_empty ⟨.ref s.heap.objs.size, _, I.laid (a := s.heap.objs.size) (t' := s.toks) (fun _ _ q => Heap.get?_push_of_some _ q) (Nat.le_refl _) (dit_empty (P := X.prog) s.heap), rfl, h _ (I.hok.fresh (Nat.le_refl _)) (beq_eq_false_iff_ne.mpr (Ne.symm (Nat.ne_of_lt I.big)))⟩⟩
theorem e_dit0 {c : Cx0} {Γ : Cal} {X : Cx} {pos : Pos} (ew : c.ca.w = X.w) : PE X (.Dict [] [] pos) (tE c Γ X .dit0) :=
  PE.imp pe_dnewD fun σ H Q ⟨L, Z, ρ, G, Xm, Qm, R, hL, w, tk, en⟩ p hp hm => by
    simp only [wpE] at w
    refine en.new R (fun _ z => z) (Ext.refl _ _) hp (u := .dit [] []) ?_ w
    exact ⟨[], [], by rw [ew], hm, Nat.zero_le _, List.nodup_nil, .nil, .nil, by simp [RepUs]⟩
theorem tA_nil {c : Cx0} {Γ : Cal} {X : Cx} {σ : L2.St} {H : Hp} {Q : List V → Hp → Prop} (h : tA c Γ X .nil σ H Q) : Q [] H := by
  obtain ⟨L, Z, ρ, G, Xm, Qm, R, hL, w, tk, en⟩ := h
  simp only [wpEs] at w
  have e : Hds [] ([] : List V) = fun _ => False := rfl
  refine en [] ρ G [] H (Ext.refl _ _) ?_ rfl trivial (fun p z => z.elim) w
  rw [e, or2_false]; exact R
theorem tA_cons {c : Cx0} {Γ : Cal} {X : Cx} {σ : L2.St} {H : Hp} {Q : List V → Hp → Prop} {a : E} {es : Es} (h : tA c Γ X (.cons a es) σ H Q) : tE c Γ X a σ H fun x H1 => tA c Γ X es σ H1 fun xs H2 => Q (x :: xs) H2 := by
  obtain ⟨L, Z, ρ, G, Xm, Qm, R, hL, w, tk, en⟩ := h
  simp only [wpEs] at w
  refine ⟨L, Z, ρ, G, Xm, _, R, hL, w, tk, fun ra ρ1 G1 x H1 hx R1 w1 => ?_⟩
  refine ⟨L, Or2 Z (Hd ra x), ρ1, G1, Xm, _, R1.rep, fun a z => .inl (hL a z), w1, tk.go hx fun a => .inl, fun rs ρ2 G2 vs H2 hx2 R2 q2 ap nw w2 => ?_⟩
  have e : Or2 (Or2 Z (Hd ra x)) (Hds rs vs) = Or2 Z (Hds (ra :: rs) (x :: vs)) := or2_assoc
  refine en (ra :: rs) ρ2 G2 (x :: vs) H2 (hx.trans hx2) (e ▸ R2) ⟨x, vs, rfl, ?_, e ▸ q2⟩ ⟨fun a h1 h2 => (nw a h2).2 (.inr h1), ap⟩ (fun p z => ?_) w2
  · rw [← e]
    exact R1.val.step (fun a z => .inr z) (fun a z => (R1.rep.zd a z).1) hx2 fun p z => (nw p z).1
  · rcases z with z | z
    · exact R1.new p z
    · obtain ⟨n1, n2⟩ := nw p z
      refine ⟨?_, fun k => n2 (.inl k)⟩
      cases e1 : H p with
      | none => exact .inl rfl
      | some o =>
        by_cases ff : fp σ ρ G p
        · exact .inr ff
        · have h2 := hx p o e1 ff
          rcases n1 with k | k
          · rw [h2.1] at k; cases k
          · exact absurd k h2.2
/-- a display's pairs -/
noncomputable def trsD (c : Cx0) (Γ : Cal) (X : Cx) : List (List Nat) → Es → List (TE × TE)
  | s :: ss, .cons a es => (tC (.str (strS s)), tE c Γ X a) :: trsD c Γ X ss es
  | _, _ => []
noncomputable def esLen : Es → Nat
  | .nil => 0
  | .cons _ es => esLen es + 1
theorem pairs_of {c : Cx0} {Γ : Cal} {X : Cx} {σ : L2.St} : ∀ {ss : List (List Nat)} {es : Es} {H : Hp} {Q : List (V × V) → Hp → Prop}, esLen es = ss.length → tA c Γ X es σ H (fun vs H' => vs.length = ss.length ∧ Q ((ss.map fun s => V.str (strS s)).zip vs) H') → tPairs (trsD c Γ X ss es) σ H Q
  | [], .nil, H, Q, _, h => (tA_nil h).2
  | [], .cons a es, H, Q, hl, h => by simp [esLen] at hl
  | s :: ss, .nil, H, Q, hl, h => by simp [esLen] at hl
  | s :: ss, .cons a es, H, Q, hl, h => by
    have h2 := tA_cons h
    obtain ⟨L, Z, ρ, G, Xm, Qm, R, hL, w, tk, en⟩ := h2
    refine ⟨L, Z, ρ, G, Xm, Qm, R, hL, w, tk, fun r ρ1 G1 x H1 hx R1 w1 => ?_⟩
    have h3 := en r ρ1 G1 x H1 hx R1 w1
    refine pairs_of (ss := ss) (es := es) (by simpa [esLen] using hl) ?_
    obtain ⟨L, Z, ρ, G, Xm, Qm, R, hL, w, tk, en⟩ := h3
    refine ⟨L, Z, ρ, G, Xm, Qm, R, hL, w, tk, fun rs ρ2 G2 vs H2 hx2 R2 q2 ap nw w2 => ?_⟩
    obtain ⟨e, q⟩ := en rs ρ2 G2 vs H2 hx2 R2 q2 ap nw w2
    exact ⟨by simpa using e, q⟩
theorem merge_new : ∀ {more acc : List (Key × V)}, ((acc ++ more).map (·.1)).Nodup → mergeK acc more = acc ++ more
  | [], acc, _ => by simp [mergeK]
  | p :: more, acc, h => by
    have hp : putK acc p.1 p.2 = acc ++ [p] := by
      unfold putK
      rw [if_neg]
      intro z
      obtain ⟨q, hq, e⟩ := List.any_eq_true.mp z
      have e : q.1 = p.1 := of_decide_eq_true e
      rw [List.map_append, List.nodup_append] at h
      exact h.2.2 q.1 (List.mem_map.mpr ⟨q, hq, rfl⟩) p.1 (by simp) e
    show mergeK (putK acc p.1 p.2) more = _
    rw [hp, merge_new (by simpa using h)]
    simp
/-- a display's keys, and the values so far -/
noncomputable def DisOk (c : Cx0) (Γ : Cal) (X : Cx) (ms : Es) (es : List Expr) : Prop := ∀ (pos : Pos) (ks : Es) (keys : List (Option Expr)), ckKs ks keys = true → keys.length = es.length → ∃ ss, litS ks = some ss ∧ esLen ms = ss.length ∧ PPs X pos keys es (trsD c Γ X ss ms) ∧ keys.all (·.isSome) = true
theorem dis_nil {c : Cx0} {Γ : Cal} {X : Cx} : DisOk c Γ X .nil [] := fun pos ks keys h1 h3 => by
  cases keys with
  | cons _ _ => simp at h3
  | nil =>
    cases ks with
    | cons _ _ => simp [ckKs] at h1
    | nil => exact ⟨[], rfl, rfl, pps_nil, rfl⟩
theorem dis_cons {c : Cx0} {Γ : Cal} {X : Cx} {m : E} {e : Expr} {ms : Es} {es : List Expr} (pe : PE X e (tE c Γ X m)) (d : DisOk c Γ X ms es) : DisOk c Γ X (.cons m ms) (e :: es) := fun pos ks keys h1 h3 => by
  cases keys with
  | nil => simp at h3
  | cons oe keys =>
    cases ks with
    | nil => simp [ckKs] at h1
    | cons k ks =>
      simp only [ckKs, Bool.and_eq_true] at h1
      obtain ⟨ss, e1, e2, e3, e4⟩ := d pos ks keys h1.2 (by simpa using h3)
      have h1 := h1.1
      split at h1
      · rename_i s t j p q
        simp only [Bool.and_eq_true, decide_eq_true_eq] at h1
        refine ⟨s :: ss, by simp [litS, e1], by simp [esLen, e2], ?_, by simpa using e4⟩
        rw [← h1.1]
        exact pps_cons pe_str pe e3
      · cases h1
theorem zip_keys : ∀ (ss : List (List Nat)) (vs : List V), vs.length = ss.length → (ss.map fun s => V.str (strS s)).zip vs = ((ss.map fun s => (Sum.inr (strS s) : Key)).zip vs).map (fun kv => (kV kv.1, kv.2))
  | [], vs, _ => by simp
  | s :: ss, [], h => by simp at h
  | s :: ss, v :: vs, h => by
    simp only [List.map_cons, List.zip_cons_cons]
    rw [zip_keys ss vs (by simpa using h)]
    rfl
theorem e_dic {c : Cx0} {Γ : Cal} {X : Cx} {pos : Pos} {k : E} {ks vs : Es} {ss : List (List Nat)} {keys : List (Option Expr)} {vals : List Expr} (hs : litS (.cons k ks) = some ss) (hnd : ss.Nodup) (hl : esLen vs = ss.length) (h15 : keys.length ≤ 15) (h0 : keys ≠ []) (hkl : keys.length = ss.length)
    (hl2 : keys.length = vals.length) (hall : keys.all (·.isSome) = true) (pp : PPs X pos keys vals (trsD c Γ X ss vs)) : PE X (.Dict keys vals pos) (tE c Γ X (.dic (.cons k ks) vs)) := by
  refine PE.imp (pe_disp pp hall hl2 h0 h15) fun σ H Q ⟨L, Z, ρ, G, Xm, Qm, R, hL, w, tk, en⟩ p hp => ?_
  simp only [wpE, hs, optK] at w
  have hk : ∀ a o, H a = some o → upd H p (.dK []) a = some o := fun a o e => by rw [upd_ne (ne_of_none e hp)]; exact e
  have R1 : Rep c.ca X.K L (Or2 Z (One p)) σ (upd H p (.dK [])) ρ G := R.more hk fun a e => by
    have e' : a = p := e
    subst e'
    exact ⟨hp, _, upd_same⟩
  have hx0 : Ext H (fp σ ρ G) (upd H p (.dK [])) (fp σ ρ G) := fun a o e n => ⟨hk a o e, n⟩
  have nfp : ¬ fp σ ρ G p := fun z => by
    obtain ⟨o, e, _⟩ := R.mut z
    rw [hp] at e; cases e
  have nZ : ¬ Z p := fun z => by
    obtain ⟨_, o, e⟩ := R.zd p z
    rw [hp] at e; cases e
  refine pairs_of hl ⟨L, Or2 Z (One p), ρ, G, Xm, _, R1, fun a z => .inl (hL a z), w, tk.go hx0 fun _ => .inl, fun rs ρ1 G1 us H1 hx R2 q2 ap nw w1 => ?_⟩
  obtain ⟨ws, ρ2, ⟨hwl, k2⟩, R3, q3, sub⟩ := toUs_ok (K0 := fun us ρ2 => us.length = ss.length ∧ Qm (.tmp (.dic (ss.map U.str) us)) ρ2 G1) R2 q2 ap (fun p z => (nw p z).2) w1
  have hvl : us.length = ss.length := by rw [← q3.length]; exact hwl
  have nL : ¬ L p := fun z => nZ (hL p z)
  have hHd : ∀ u : U, Hd (.tmp u) (.ref p) = One p := fun u => by
    funext a
    exact propext ⟨fun e => (V.ref.inj e).symm, fun e => by rw [show a = p from e]; rfl⟩
  refine ⟨hvl, (hx p _ upd_same nfp).1, (ss.map fun s => (Sum.inr (strS s) : Key)).zip us, zip_keys ss us hvl, ?_, ?_⟩
  · rw [List.length_zip, List.length_map]
    omega
  · have hkm : ((ss.map fun s => (Sum.inr (strS s) : Key)).zip us).map (·.1) = ss.map fun s => (Sum.inr (strS s) : Key) := by
      rw [List.map_fst_zip]
      rw [List.length_map]; omega
    have hvm : ((ss.map fun s => (Sum.inr (strS s) : Key)).zip us).map (·.2) = us := by
      rw [List.map_snd_zip]
      rw [List.length_map]; omega
    rw [merge_new (acc := []) (by
      rw [List.nil_append, hkm]
      exact hnd.map (fun s : List Nat => (Sum.inr (strS s) : Key)) (fun a b hne e => hne (by
        have := Sum.inr.inj e
        unfold strS at this
        simpa using this))), List.nil_append]
    have R4 := R3.reserved (p := p) (o := .dK ((ss.map fun s => (Sum.inr (strS s) : Key)).zip us)) (.inr rfl) nL
    refine en (.tmp (.dic (ss.map U.str) ws)) ρ2 G1 (.ref p) _ (fun a o e n => ?_) ⟨by rw [hHd]; exact R4, ⟨p, _, rfl, upd_same, _, rfl, ?_, ?_⟩, fun q z => ?_⟩ k2
    · have hne := ne_of_none e hp
      obtain ⟨h1, h2⟩ := hx a o (hk a o e) n
      exact ⟨by rw [upd_ne hne]; exact h1, fun z => h2 (sub a z)⟩
    · have e1 : ((ss.map fun s => (Sum.inr (strS s) : Key)).zip us).map (fun q => kKey q.1) = (((ss.map fun s => (Sum.inr (strS s) : Key)).zip us).map (·.1)).map kKey := by rw [List.map_map]; rfl
      rw [e1, hkm, List.map_map]
      refine List.map_congr_left fun s _ => ?_
      show U.str s = U.str (strS s).cps.toList
      unfold strS
      simp
    · rw [hvm, hHd]
      refine RepUs.ext (fun a o e n => ⟨?_, n⟩) _ q3
      rw [upd_ne (fun z => n (.inr (.inr z)))]
      exact e
    · rw [hHd] at z
      have z' : q = p := z
      subst z'
      exact ⟨.inl hp, nZ⟩
structure OkE (c : Cx0) (n : Nat) (X : Cx) (m : E) (e : Expr) : Prop where
  pe : PE X e (tE c (gN c n) X m)
  pt : PT X e (tB' c (gN c n) X m)
structure OkEs (c : Cx0) (n : Nat) (X : Cx) (ms : Es) (es : List Expr) : Prop where
  pa : PA X es (tA c (gN c n) X ms)
  ea : ∀ pos, ms ≠ .nil → PE X (.BoolOp .And es pos) (tAE c (gN c n) X ms)
  eo : ∀ pos, ms ≠ .nil → PE X (.BoolOp .Or es pos) (tOE c (gN c n) X ms)
  ta : ∀ pos, ms ≠ .nil → PW X (.BoolOp .And es pos) (tBA c (gN c n) X ms)
  to : ∀ pos, ms ≠ .nil → PW X (.BoolOp .Or es pos) (tBO c (gN c n) X ms)
  dis : DisOk c (gN c n) X ms es
theorem OkE.of {c : Cx0} {n : Nat} {X : Cx} {m : E} {e : Expr} (pe : PE X e (tE c (gN c n) X m)) (h : plainT e = true) : OkE c n X m e := ⟨pe, t_gen pe (plainT_he h)⟩
theorem ckEs_len {K : Ck} : ∀ {ms : Es} {es : List Expr}, ckEs K ms es = true → esLen ms = es.length
  | .nil, [], _ => rfl
  | .nil, _ :: _, h => by simp [ckEs] at h
  | .cons _ _, [], h => by simp [ckEs] at h
  | .cons m ms, e :: es, h => by
    simp only [ckEs, Bool.and_eq_true] at h
    simp [esLen, ckEs_len h.2]
mutual
theorem okE {c : Cx0} {n : Nat} {X : Cx} {K : Ck} (C : Ctx c n X K) : ∀ (m : E) (e : Expr), ckE K m e = true → OkE c n X m e
  | .loc i, e, h => by
    simp only [ckE, Bool.and_eq_true] at h
    obtain ⟨_, h⟩ := h
    split at h
    · exact .of (c_loc C h) rfl
    · cases h
  | .no, e, h => ⟨⟨fun pins s σ H Q I h => by
      obtain ⟨L, Z, ρ, G, Xm, Qm, R, hL, w, tk, en⟩ := h
      simp only [wpE] at w⟩, ⟨fun pins s σ H Q I h => by
      obtain ⟨L, Z, ρ, G, Xm, Qm, R, hL, w, tk, en⟩ := h
      simp only [wpE] at w⟩⟩
  | .int i, e, h => by
    simp only [ckE, Bool.and_eq_true] at h
    obtain ⟨_, h⟩ := h
    split at h
    · have := of_decide_eq_true h
      subst this
      exact .of e_int rfl
    · cases h
  | .str s, e, h => by
    simp only [ckE, Bool.and_eq_true] at h
    obtain ⟨_, h⟩ := h
    split at h
    · simp only [Bool.and_eq_true, decide_eq_true_eq] at h
      obtain ⟨h1, h2⟩ := h
      subst h1
      exact .of (e_str (goodB_out h2)) rfl
    · cases h
  | .bl b, e, h => by
    simp only [ckE, Bool.and_eq_true] at h
    obtain ⟨_, h⟩ := h
    split at h
    · have := of_decide_eq_true h
      subst this
      exact .of e_bl rfl
    · cases h
  | .non, e, h => by
    simp only [ckE, Bool.and_eq_true] at h
    obtain ⟨_, h⟩ := h
    split at h
    · exact .of e_non rfl
    · cases h
  | .cst v, e, h => by
    simp only [ckE, Bool.and_eq_true] at h
    obtain ⟨_, h⟩ := h
    split at h
    · rename_i x pos
      simp only [Bool.and_eq_true, decide_eq_true_eq, List.any_eq_true] at h
      obtain ⟨h2, ⟨q1, q2⟩, h3, h4, h5⟩ := h
      simp only at h4 h5
      subst h4
      refine .of (c_cst C h2 ?_) rfl
      split at h5
      · have := of_decide_eq_true h5
        subst this
        exact h3
      · simp only [Bool.and_eq_true, decide_eq_true_eq] at h5
        obtain ⟨e, _⟩ := h5
        subst e
        exact h3
      · cases h5
    · cases h
  | .bin op a b, e, h => by
    simp only [ckE, Bool.and_eq_true] at h
    obtain ⟨_, h⟩ := h
    split at h
    · simp only [Bool.and_eq_true, decide_eq_true_eq] at h
      obtain ⟨⟨h1, h2⟩, h3⟩ := h
      subst h1
      exact .of (e_bin (okE C a _ h2).pe (okE C b _ h3).pe) rfl
    · cases h
  | .neg a, e, h => by
    simp only [ckE, Bool.and_eq_true] at h
    obtain ⟨_, h⟩ := h
    split at h
    · exact .of (e_neg (okE C a _ h).pe) rfl
    · cases h
  | .not_ a, e, h => by
    simp only [ckE, Bool.and_eq_true] at h
    obtain ⟨_, h⟩ := h
    split at h
    · exact ⟨e_not (okE C a _ h).pe, t_not (okE C a _ h).pt⟩
    · cases h
  | .and_ a es, e, h => by
    simp only [ckE, Bool.and_eq_true] at h
    obtain ⟨_, h⟩ := h
    split at h
    · simp only [Bool.and_eq_true] at h
      obtain ⟨h1, h2⟩ := h
      have o := okEs C es _ h2
      have ne : es ≠ .nil := fun z => by rw [z] at h2; simp [ckEs] at h2
      exact ⟨e_and (okE C a _ h1).pe (o.ea _ ne), (t_and (okE C a _ h1).pt (o.ta _ ne)).pt⟩
    · cases h
  | .or_ a es, e, h => by
    simp only [ckE, Bool.and_eq_true] at h
    obtain ⟨_, h⟩ := h
    split at h
    · simp only [Bool.and_eq_true] at h
      obtain ⟨h1, h2⟩ := h
      have o := okEs C es _ h2
      have ne : es ≠ .nil := fun z => by rw [z] at h2; simp [ckEs] at h2
      exact ⟨e_or (okE C a _ h1).pe (o.eo _ ne), (t_or (okE C a _ h1).pt (o.to _ ne)).pt⟩
    · cases h
  | .cmp op a b, e, h => by
    simp only [ckE, Bool.and_eq_true] at h
    obtain ⟨_, h⟩ := h
    split at h
    · simp only [Bool.and_eq_true, decide_eq_true_eq] at h
      obtain ⟨⟨h1, h2⟩, h3⟩ := h
      subst h1
      exact ⟨e_cmp (units_of C) (okE C a _ h2).pe (okE C b _ h3).pe (nomarkX (ck_plain h3)), t_cmp (units_of C) (okE C a _ h2).pe (okE C b _ h3).pe (nomarkX (ck_plain h3))⟩
    · cases h
  | .chain o1 o2 a b d, e, h => by
    simp only [ckE, Bool.and_eq_true] at h
    obtain ⟨_, h⟩ := h
    split at h
    · simp only [Bool.and_eq_true, decide_eq_true_eq] at h
      obtain ⟨⟨⟨⟨h1, h2⟩, h3⟩, h4⟩, h5⟩ := h
      subst h1 h2
      exact ⟨e_chain (units_of C) (okE C a _ h3).pe (okE C b _ h4).pe (okE C d _ h5).pe (lastMarks_of (ck_plain h5)), t_chain (units_of C) (okE C a _ h3).pe (okE C b _ h4).pe (okE C d _ h5).pe (lastMarks_of (ck_plain h5))⟩
    · cases h
  | .isN a neg, e, h => by
    simp only [ckE, Bool.and_eq_true] at h
    obtain ⟨_, h⟩ := h
    split at h
    · simp only [Bool.and_eq_true, decide_eq_true_eq] at h
      obtain ⟨h1, h2⟩ := h
      subst h1
      exact ⟨e_isN (okE C a _ h2).pe, t_isN (okE C a _ h2).pe⟩
    · cases h
  | .isB a v neg, e, h => by
    simp only [ckE, Bool.and_eq_true] at h
    obtain ⟨_, h⟩ := h
    split at h
    · simp only [Bool.and_eq_true, decide_eq_true_eq] at h
      obtain ⟨⟨h1, h3⟩, h2⟩ := h
      subst h1 h3
      exact ⟨e_isB (okE C a _ h2).pe, t_isB (okE C a _ h2).pe⟩
    · cases h
  | .idx a b, e, h => by
    simp only [ckE, Bool.and_eq_true] at h
    obtain ⟨_, h⟩ := h
    split at h
    · simp only [Bool.and_eq_true] at h
      exact .of (e_idx (units_of C) (plainIx_of (ck_plain h.2)) (okE C a _ h.1).pe (okE C b _ h.2).pe) rfl
    · cases h
  | .kix d b, e, h => by
    simp only [ckE, Bool.and_eq_true] at h
    obtain ⟨_, h⟩ := h
    split at h
    · simp only [Bool.and_eq_true, decide_eq_true_eq] at h
      exact .of (c_kix C h.1.1 h.1.2 (ck_plain h.2) (okE C b _ h.2).pe) rfl
    · cases h
  | .kin d b neg, e, h => by
    simp only [ckE, Bool.and_eq_true] at h
    obtain ⟨_, h⟩ := h
    split at h
    · simp only [Bool.and_eq_true, decide_eq_true_eq] at h
      obtain ⟨⟨⟨h1, h2⟩, h3⟩, h4⟩ := h
      subst h1
      exact ⟨c_kin C h2 h3 (okE C b _ h4).pe, t_kin C h2 h3 (okE C b _ h4).pe⟩
    · cases h
  | .slc a lo hi, e, h => by
    simp only [ckE, Bool.and_eq_true] at h
    obtain ⟨_, h⟩ := h
    split at h
    · simp only [Bool.and_eq_true] at h
      exact .of (e_slc (okE C a _ h.1.1).pe (okO C lo _ h.1.2).1 (okO C hi _ h.2).1) rfl
    · cases h
  | .fld a f, e, h => by
    simp only [ckE, Bool.and_eq_true] at h
    obtain ⟨_, h⟩ := h
    split at h
    · simp only [Bool.and_eq_true, decide_eq_true_eq] at h
      exact .of (c_fld C h.1.1 h.2 (okE C a _ h.1.2).pe) rfl
    · cases h
  | .frz i, e, h => by
    simp only [ckE, Bool.and_eq_true] at h
    obtain ⟨_, h⟩ := h
    split at h
    · exact .of (c_frz C h) rfl
    · cases h
  | .exf i f, e, h => by
    simp only [ckE, Bool.and_eq_true] at h
    obtain ⟨_, h⟩ := h
    split at h
    · simp only [Bool.and_eq_true, decide_eq_true_eq] at h
      exact .of (c_exf C h.1.1 h.1.2 h.2) rfl
    · cases h
  | .call f args, e, h => by
    simp only [ckE, Bool.and_eq_true] at h
    obtain ⟨_, h⟩ := h
    split at h
    · simp only [Bool.and_eq_true, decide_eq_true_eq] at h
      exact .of (c_call C (hot_no h.1.1.1) h.1.1.2 h.1.2 h.2 (okEs C args _ h.2).pa) rfl
    · cases h
  | .make k f args, e, h => by
    simp only [ckE, Bool.and_eq_true] at h
    obtain ⟨_, h⟩ := h
    split at h
    · simp only [Bool.and_eq_true, decide_eq_true_eq] at h
      exact .of (c_make C (hot_no h.1.1.1) h.1.1.2 h.1.2 h.2 (okEs C args _ h.2).pa) rfl
    · cases h
  | .meth k f o args, e, h => by
    simp only [ckE, Bool.and_eq_true] at h
    obtain ⟨_, h⟩ := h
    split at h
    · simp only [Bool.and_eq_true, decide_eq_true_eq] at h
      obtain ⟨⟨⟨⟨⟨⟨hh, h1⟩, h2⟩, h3⟩, h4⟩, h5⟩, h6⟩ := h
      exact .of (c_meth C (hot_no hh) h1 h4 h3 (okE C o _ h2).pe (okEs C args _ h3).pa (meth_ht h4 h3 h5 h6)) rfl
    · cases h
  | .bcall b args, e, h => by
    simp only [ckE, Bool.and_eq_true] at h
    obtain ⟨_, h⟩ := h
    split at h
    · simp only [Bool.and_eq_true] at h
      obtain ⟨hh, h⟩ := h
      split at h
      · cases h
      · split at h
        · simp only [Bool.and_eq_true] at h
          obtain ⟨⟨h1, h2⟩, h3⟩ := h
          cases args with
          | nil => cases h3
          | cons a as =>
            simp only [ckEs, Bool.and_eq_true] at h3
            cases as with
            | cons _ _ => cases h3.2
            | nil => exact .of (e_lset C (hot_no (by simpa using hh)) h1 h2 (ck_plain h3.1) (okE C a _ h3.1).pe) rfl
        · cases h
      · split at h
        · simp only [Bool.and_eq_true] at h
          obtain ⟨⟨h1, h2⟩, h3⟩ := h
          cases args with
          | nil => cases h3
          | cons a as =>
            simp only [ckEs, Bool.and_eq_true] at h3
            cases as with
            | cons _ _ => cases h3.2
            | nil => exact .of (e_lrev C (hot_no (by simpa using hh)) h1 h2 (ck_plain h3.1) (okE C a _ h3.1).pe) rfl
        · cases h
      · split at h
        · simp only [Bool.and_eq_true] at h
          obtain ⟨⟨h1, h2⟩, h3⟩ := h
          cases args with
          | nil => cases h3
          | cons a as =>
            simp only [ckEs, Bool.and_eq_true] at h3
            cases as with
            | cons _ _ => cases h3.2
            | nil => exact .of (e_sset C (hot_no (by simpa using hh)) h1 h2 (ck_plain h3.1) (okE C a _ h3.1).pe) rfl
        · cases h
      · split at h
        · simp only [Bool.and_eq_true] at h
          obtain ⟨⟨h1, h2⟩, h3⟩ := h
          cases args with
          | nil => cases h3
          | cons a as =>
            simp only [ckEs, Bool.and_eq_true] at h3
            cases as with
            | cons _ _ => cases h3.2
            | nil => exact .of (e_lsa C (hot_no (by simpa using hh)) h1 h2 (ck_plain h3.1) (okE C a _ h3.1).pe) rfl
        · cases h
      · cases h
      · cases h
      · rename_i n1 n2 n3 n6 n7 n4 n5
        simp only [Bool.and_eq_true] at h
        exact .of (c_bcall C (hot_int hh) ⟨n1, n2, n3, n4, n5, n6, n7⟩ h.1 h.2 (okEs C args _ h.2).pa) rfl
    · simp only [Bool.and_eq_true, decide_eq_true_eq] at h
      obtain ⟨⟨⟨⟨⟨⟨hh, h1⟩, h2⟩, h3⟩, hl⟩, h4⟩, h5⟩ := h
      subst h1 h2 h3
      rename_i es _ _ _ _ _
      match args, es, hl, h5 with
      | .cons a .nil, [e1], _, h5 =>
        simp only [ckEs, Bool.and_eq_true] at h5
        exact .of (e_maxd C (hot_no hh) (bf := .maxz) (d := 0) (fun _ _ => rfl) (fun x K h => by cases x <;> first | exact ⟨_, rfl⟩ | cases h) h4 (ck_plain h5.1) pe_int (okE C a _ h5.1).pe) rfl
      | .nil, [e1], _, h5 => simp [ckEs] at h5
      | .cons a (.cons b bs), [e1], _, h5 => simp [ckEs] at h5
    · simp only [Bool.and_eq_true, decide_eq_true_eq] at h
      obtain ⟨⟨⟨⟨⟨⟨hh, h1⟩, h2⟩, h3⟩, hl⟩, h4⟩, h5⟩ := h
      subst h1 h2 h3
      rename_i es _ _ _ _ _ _
      match args, es, hl, h5 with
      | .cons a .nil, [e1], _, h5 =>
        simp only [ckEs, Bool.and_eq_true] at h5
        exact .of (e_maxd C (hot_no hh) (bf := .maxm) (d := -1) (fun _ _ => rfl) (fun x K h => by cases x <;> first | exact ⟨_, rfl⟩ | cases h) h4 (ck_plain h5.1) pe_neg1 (okE C a _ h5.1).pe) rfl
      | .nil, [e1], _, h5 => simp [ckEs] at h5
      | .cons a (.cons b bs), [e1], _, h5 => simp [ckEs] at h5
    · simp only [Bool.and_eq_true, decide_eq_true_eq] at h
      obtain ⟨⟨h1, h2⟩, h3⟩ := h
      subst h1 h2
      cases args with
      | nil => cases h3
      | cons a as =>
        simp only [ckEs, Bool.and_eq_true] at h3
        cases as with
        | cons _ _ => cases h3.2
        | nil => exact .of (e_rev (okE C a _ h3.1).pe) rfl
    · cases h
  | .bmeth m o args, e, h => by
    simp only [ckE, Bool.and_eq_true] at h
    obtain ⟨_, h⟩ := h
    split at h
    · simp only [Bool.and_eq_true, decide_eq_true_eq] at h
      obtain ⟨⟨⟨⟨⟨⟨⟨hh, h1⟩, h2⟩, h3⟩, h4⟩, h5⟩, h6⟩, h7⟩ := h
      subst h1
      have go := (okE C o _ h2).pe
      cases hd : m.isD with
      | false => exact .of (c_bmeth C (hot_or hh) hd h4 h5 h6 h3 go (okEs C args _ h3).pa) rfl
      | true => exact .of (okD C hd h4 h5 go args _ h3 (by rw [hd] at h7; simpa using h7)) rfl
    · cases h
  | .isx i j, e, h => by
    simp only [ckE, Bool.and_eq_true] at h
    obtain ⟨_, h⟩ := h
    split at h
    · simp only [Bool.and_eq_true, decide_eq_true_eq] at h
      exact .of (c_isx C h.1.1.1 h.1.1.2 h.1.2 h.2) rfl
    · cases h
  | .isxs i js, e, h => by
    simp only [ckE, Bool.and_eq_true] at h
    obtain ⟨_, h⟩ := h
    split at h
    · simp only [Bool.and_eq_true, decide_eq_true_eq] at h
      exact .of (c_isxs C h.1.1.1 h.1.1.2 h.1.2 h.2) rfl
    · cases h
  | .isin a ts, e, h => by
    simp only [ckE, Bool.and_eq_true] at h
    obtain ⟨_, h⟩ := h
    split at h
    · simp only [Bool.and_eq_true] at h
      obtain ⟨⟨h1, h2⟩, h3⟩ := h
      split at h3
      · rename_i ty
        have ht : ∀ k, ty ≠ .cls k := fun k z => by rw [z] at h3; simp [Ck.ty] at h3
        exact .of (c_isin C ht h1 h2 (by cases ty <;> first | exact h3 | exact absurd rfl (ht _)) (okE C a _ h2).pe) rfl
      · cases h3
    · cases h
  | .tup es, e, h => by
    simp only [ckE, Bool.and_eq_true] at h
    obtain ⟨_, h⟩ := h
    split at h
    · simp only [Bool.and_eq_true] at h
      exact .of (e_tup (okEs C es _ h.1).pa) rfl
    · cases h
  | .lst es, e, h => by
    simp only [ckE, Bool.and_eq_true] at h
    obtain ⟨_, h⟩ := h
    split at h
    · simp only [Bool.and_eq_true] at h
      exact .of (e_lst (okEs C es _ h.1).pa) rfl
    · cases h
  | .dit0, e, h => by
    simp only [ckE, Bool.and_eq_true] at h
    obtain ⟨_, h⟩ := h
    split at h
    · exact .of (e_dit0 C.ww) rfl
    · cases h
  | .dic ks vs, e, h => by
    simp only [ckE, Bool.and_eq_true] at h
    obtain ⟨_, h⟩ := h
    split at h
    · rename_i keys vals pos _
      split at h
      · simp only [Bool.and_eq_true] at h
        obtain ⟨⟨h1, h2⟩, h3⟩ := h
        cases vals with
        | cons _ _ => cases h3
        | nil =>
          match ks, vs, h1, h2 with
          | .nil, .nil, _, _ => exact .of e_dic0 rfl
          | .cons _ _, _, h, _ => cases h
          | .nil, .cons _ _, _, h => cases h
      · rename_i k0 keys
        simp only [Bool.and_eq_true, decide_eq_true_eq] at h
        obtain ⟨⟨⟨⟨h1, h2⟩, h3⟩, h4⟩, h5⟩ := h
        obtain ⟨ss, e1, e2, e3, e4⟩ := (okEs C vs vals h2).dis pos ks _ h1 h3
        rw [e1] at h5
        have h5 := of_decide_eq_true h5
        cases ks with
        | nil => simp [ckKs] at h1
        | cons k ks => exact .of (e_dic e1 h5 e2 h4 (by simp) (by rw [h3, ← e2]; exact (ckEs_len h2).symm) h3 e4 e3) rfl
    · cases h
  | .lc elt t it cc own, e, h => by
    simp only [ckE, Bool.and_eq_true] at h
    obtain ⟨_, h⟩ := h
    split at h
    · rename_i x tg iter ifs scope pos _
      simp only [Bool.and_eq_true] at h
      obtain ⟨⟨⟨⟨⟨⟨⟨hh, h1⟩, h2⟩, h3⟩, h4⟩, h5⟩, h6⟩, h7⟩ := h
      have HH := hot_no hh
      have ok : BlkOk X.N X.env.scope scope (ownOf K.N own) := by
        rw [C.nm, C.scope]
        exact blkOk_by h3
      have hfo : ∀ x, foldedSetIterable iter X.env x = pure x := folded_of (okI_plain it h1)
      have key : tB0 c (gN c n) X cc = tB0 c (gN c n) X cc := rfl
      refine .of (PE.imp (pe_lc (C.calm HH) C.nd (okI C it iter tg h1 h2) ok (fun s H Cl cl fp => g_blk rfl C.ww (okT (C.inner HH) t tg h5)) (tt := tB0 c (gN c n) X cc) (fun s H Cl cl fp => ?_) (fun s H Cl cl fp => e_blk rfl C.ww (okE (C.inner HH) elt x h6).pe) hfo) fun σ H Q q => ?_) rfl
      · split at h7
        · cases cc with
          | none => exact pts_nil
          | some m => cases h7
        · rename_i y _
          cases cc with
          | none => simp [ckO] at h7
          | some m =>
            exact pts_one (t_blk rfl C.ww ((okO (C.inner HH) (.some m) (some y) h7).2 m y rfl rfl))
        · cases h7
      · rw [own_ix]
        exact lc_go h4 q
    · cases h
  | .lck elt t a cc own, e, h => by
    simp only [ckE, Bool.and_eq_true] at h
    obtain ⟨_, h⟩ := h
    split at h
    · rename_i x tg iter ifs scope pos _
      simp only [Bool.and_eq_true] at h
      obtain ⟨⟨⟨⟨⟨⟨hh, h1⟩, h3⟩, h4⟩, h5⟩, h6⟩, h7⟩ := h
      have HH := hot_no hh
      have ok : BlkOk X.N X.env.scope scope (ownOf K.N own) := by
        rw [C.nm, C.scope]
        exact blkOk_by h3
      have hfo : ∀ x, foldedSetIterable iter X.env x = pure x := folded_of (ck_plain h1)
      refine .of (PE.imp (pe_unl (pe_lc (C.calm HH) C.nd (pi_keysU (okE C a iter h1).pe) ok (fun s H Cl cl fp => g_blk rfl C.ww (okT (C.inner HH) t tg h5)) (tt := tB0 c (gN c n) X cc) (fun s H Cl cl fp => ?_) (fun s H Cl cl fp => e_blk rfl C.ww (okE (C.inner HH) elt x h6).pe) hfo)) fun σ H Q q => ?_) rfl
      · split at h7
        · cases cc with
          | none => exact pts_nil
          | some m => cases h7
        · rename_i y _
          cases cc with
          | none => simp [ckO] at h7
          | some m =>
            exact pts_one (t_blk rfl C.ww ((okO (C.inner HH) (.some m) (some y) h7).2 m y rfl rfl))
        · cases h7
      · rw [own_ix]
        exact lck_go h4 q
    · cases h
  | .lcs elt t i cc own, e, h => by
    simp only [ckE, Bool.and_eq_true] at h
    obtain ⟨_, h⟩ := h
    split at h
    · rename_i x tg y py ifs scope pos _
      simp only [Bool.and_eq_true] at h
      obtain ⟨⟨⟨⟨⟨⟨hh, h1⟩, h3⟩, h4⟩, h5⟩, h6⟩, h7⟩ := h
      have HH := hot_no hh
      have ok : BlkOk X.N X.env.scope scope (ownOf K.N own) := by
        rw [C.nm, C.scope]
        exact blkOk_by h3
      have h1' := h1
      unfold Ck.loc at h1'
      simp only [Bool.and_eq_true, decide_eq_true_eq] at h1'
      obtain ⟨k1, k2, _⟩ := okNm_out h1'.2
      have gi : PE X (.Name y py) (tVar i) := pe_var (by rw [C.nm]; exact h1'.1.1) (by rw [C.scope]; exact vis_of h1'.1.2) k1 k2
      refine .of (PE.imp (pe_unl (pe_lc (C.calm HH) C.nd (pi_keysU gi) ok (fun s H Cl cl fp => g_blk rfl C.ww (okT (C.inner HH) t tg h5)) (tt := tB0 c (gN c n) X cc) (fun s H Cl cl fp => ?_) (fun s H Cl cl fp => e_blk rfl C.ww (okE (C.inner HH) elt x h6).pe) (fun _ => rfl))) fun σ H Q q => ?_) rfl
      · split at h7
        · cases cc with
          | none => exact pts_nil
          | some m => cases h7
        · rename_i y2 _
          cases cc with
          | none => simp [ckO] at h7
          | some m =>
            exact pts_one (t_blk rfl C.ww ((okO (C.inner HH) (.some m) (some y2) h7).2 m y2 rfl rfl))
        · cases h7
      · rw [own_ix]
        exact lcs_go h4 q
    · cases h
  | .new a, e, h => by
    simp only [ckE, Bool.and_eq_true] at h
    exact .of (e_new (okE C a _ h.2.1).pe) h.2.2
  | .itl it, e, h => by
    simp only [ckE, Bool.and_eq_true] at h
    obtain ⟨_, h⟩ := h
    split at h
    · rename_i fe x pos _
      simp only [Bool.and_eq_true] at h
      obtain ⟨⟨⟨⟨hh, h1⟩, h2⟩, h3⟩, h4⟩ := h
      have HH := hot_no hh
      match it, h2, h4 with
      | .rng a, h2, _ =>
        simp only [ckIt] at h2
        split at h2
        · simp only [Bool.and_eq_true] at h2
          exact .of (e_itl C HH h1 h2.1 (ck_plain h2.2) (okE C a _ h2.2).pe) rfl
        · cases h2
      | .rng2 a b, h2, _ =>
        simp only [ckIt] at h2
        split at h2
        · simp only [Bool.and_eq_true] at h2
          exact .of (e_itl2 C HH h1 h2.1.1 (ck_plain h2.1.2) (ck_plain h2.2) (okE C a _ h2.1.2).pe (okE C b _ h2.2).pe) rfl
        · cases h2
      | .seq a, _, h4 => cases h4
      | .enm a, _, h4 => cases h4
      | .zip a b, _, h4 => cases h4
      | .rev a, _, h4 => cases h4
    · cases h
theorem okD {c : Cx0} {n : Nat} {X : Cx} {K : Ck} (C : Ctx c n X K) {m : Mt} (hd : m.isD = true) {oe : Expr} {o : E} {ap cp : Pos} (hns : notSup oe = true) (hln : (ap.endLine == cp.line) = true) (go : PE X oe (tE c (gN c n) X o)) : ∀ (args : Es) (es : List Expr), ckEs K args es = true → fewD m args = true →
    PE X (.Call (.Attribute oe (Str.ofString m.name) ap) es [] cp) (tE c (gN c n) X (.bmeth m o args))
  | .nil, es, h, h2 => by
    simp only [fewD, decide_eq_true_eq] at h2
    subst h2
    cases es with
    | nil => exact e_dclear C hns hln go
    | cons _ _ => simp [ckEs] at h
  | .cons a .nil, es, h, h2 => by
    match es, h with
    | [e1], h =>
      simp only [ckEs, Bool.and_eq_true] at h
      have ga := (okE C a e1 h.1).pe
      have hp := ck_plain h.1
      cases m <;> first | (cases hd; done) | (cases h2; done) | skip
      · exact e_dget1 C hns hln hp go ga
      · exact e_dpop1 C hns hln hp go ga
      · exact e_tget1 C hns hln hp go ga
      · exact e_tpop1 C hns hln hp go ga
    | [], h => simp [ckEs] at h
    | _ :: _ :: _, h => simp [ckEs] at h
  | .cons a (.cons b .nil), es, h, h2 => by
    match es, h with
    | [e1, e2], h =>
      simp only [ckEs, Bool.and_eq_true] at h
      have ga := (okE C a e1 h.1).pe
      have gb := (okE C b e2 h.2.1).pe
      have hp := ck_plain h.1
      have hp2 := ck_plain h.2.1
      cases m <;> first | (cases hd; done) | (cases h2; done) | skip
      · exact e_dget2 C hns hln hp hp2 go ga gb
      · exact e_dpop2 C hns hln hp hp2 go ga gb
      · exact e_tget2 C hns hln hp hp2 go ga gb
    | [], h => simp [ckEs] at h
    | [_], h => simp [ckEs] at h
    | _ :: _ :: _ :: _, h => simp [ckEs] at h
  | .cons a (.cons b (.cons d es')), es, h, h2 => by cases h2
theorem okEs {c : Cx0} {n : Nat} {X : Cx} {K : Ck} (C : Ctx c n X K) : ∀ (ms : Es) (es : List Expr), ckEs K ms es = true → OkEs c n X ms es
  | .nil, es, h => by
    cases es with
    | nil => exact ⟨a_nil, fun _ z => absurd rfl z, fun _ z => absurd rfl z, fun _ z => absurd rfl z, fun _ z => absurd rfl z, dis_nil⟩
    | cons _ _ => simp [ckEs] at h
  | .cons m ms, es, h => by
    cases es with
    | nil => simp [ckEs] at h
    | cons e es =>
      simp only [ckEs, Bool.and_eq_true] at h
      have o := okE C m e h.1
      have os := okEs C ms es h.2
      refine ⟨a_cons o.pe os.pa (star_cons (ck_plain h.1)), fun pos _ => ?_, fun pos _ => ?_, fun pos _ => ?_, fun pos _ => ?_, dis_cons o.pe os.dis⟩
      all_goals
        cases ms with
        | nil =>
          cases es with
          | cons _ _ => simp [ckEs] at h
          | nil => first | exact ea_one o.pe | exact eo_one o.pe | exact ta_one o.pt | exact to_one o.pt
        | cons m2 ms2 =>
          cases es with
          | nil => simp [ckEs] at h
          | cons e2 es2 => first | exact ea_more o.pe (os.ea pos nofun) | exact eo_more o.pe (os.eo pos nofun) | exact ta_more o.pt (os.ta pos nofun) | exact to_more o.pt (os.to pos nofun)
theorem okO {c : Cx0} {n : Nat} {X : Cx} {K : Ck} (C : Ctx c n X K) : ∀ (m : Oe) (o : Option Expr), ckO K m o = true → PO X o (tO c (gN c n) X m) ∧ ∀ m' e, m = .some m' → o = some e → PT X e (tB' c (gN c n) X m')
  | .none, o, h => by
    cases o with
    | none => exact ⟨po_none, fun m' e z => by cases z⟩
    | some _ => simp [ckO] at h
  | .some m, o, h => by
    cases o with
    | none => simp [ckO] at h
    | some e =>
      simp only [ckO] at h
      have o := okE C m e h
      exact ⟨po_some o.pe, fun m' e z z2 => by cases z; cases z2; exact o.pt⟩
theorem okT {c : Cx0} {n : Nat} {X : Cx} {K : Ck} (C : Ctx c n X K) : ∀ (t : T) (e : Expr), ckT K t e = true → PG X e (tT c (gN c n) X t)
  | .nm i, e, h => by
    simp only [ckT] at h
    split at h
    · exact g_nm C h
    · cases h
  | .tp ts, e, h => by
    simp only [ckT] at h
    split at h
    · simp only [Bool.and_eq_true] at h
      obtain ⟨g, h1, h2⟩ := okTs C ts _ h.2
      exact g_tup (C.calm (hot_no h.1)) g h1 h2
    · cases h
  | .ix a b, e, h => by
    simp only [ckT] at h
    split at h
    · simp only [Bool.and_eq_true] at h
      have hp := ck_plain h.2
      refine g_ix (units_of C) C.ww (okE C a _ h.1).pe (okE C b _ h.2).pe fun v => ?_
      rename_i y _ 
      cases y <;> first | rfl | cases hp
    · cases h
  | .fd a f, e, h => by
    simp only [ckT] at h
    split at h
    · simp only [Bool.and_eq_true, decide_eq_true_eq] at h
      exact g_fd C h.1 (okE C a _ h.2).pe
    · cases h
theorem okTs {c : Cx0} {n : Nat} {X : Cx} {K : Ck} (C : Ctx c n X K) : ∀ (ts : Ts) (es : List Expr), ckTs K ts es = true → PGs X es (tTs c (gN c n) X ts) ∧ (assignEach es X.env).length = tsLen ts ∧ (assignEach es X.env).findIdx? (·.1) = none
  | .nil, es, h => by
    cases es with
    | nil => exact ⟨gs_nil, rfl, rfl⟩
    | cons _ _ => simp [ckTs] at h
  | .cons t ts, es, h => by
    cases es with
    | nil => simp [ckTs] at h
    | cons e es =>
      simp only [ckTs, Bool.and_eq_true] at h
      obtain ⟨g, h1, h2⟩ := okTs C ts es h.2
      have hs : assignEach (e :: es) X.env = (false, assign e X.env) :: assignEach es X.env := by
        have := h.1
        cases t <;> simp only [ckT] at this <;> first | (cases this; done) | (split at this <;> first | rfl | cases this)
      refine ⟨gs_cons (okT C t e h.1) g (by rw [hs]; rfl), by rw [hs, List.length_cons, h1]; rfl, ?_⟩
      rw [hs, List.findIdx?_cons]
      simp [h2]
theorem okI {c : Cx0} {n : Nat} {X : Cx} {K : Ck} (C : Ctx c n X K) : ∀ (it : It) (e tg : Expr), ckIt K it e = true → itT it tg = true → PI X tg e (tI c (gN c n) X it)
  | .seq a, e, tg, h, _ => by
    simp only [ckIt] at h
    exact i_seq (okE C a e h).pe
  | .rng a, e, tg, h, _ => by
    simp only [ckIt] at h
    split at h
    · simp only [Bool.and_eq_true] at h
      exact i_rng C h.1 (ck_plain h.2) (okE C a _ h.2).pe
    · cases h
  | .rng2 a b, e, tg, h, _ => by
    simp only [ckIt] at h
    split at h
    · simp only [Bool.and_eq_true] at h
      exact i_rng2 C h.1.1 (ck_plain h.1.2) (ck_plain h.2) (okE C a _ h.1.2).pe (okE C b _ h.2).pe
    · cases h
  | .enm a, e, tg, h, ht => by
    simp only [ckIt] at h
    split at h
    · simp only [Bool.and_eq_true] at h
      cases tg <;> simp only [itT, isTup] at ht <;> try (cases ht; done)
      exact i_enm C h.1 (ck_plain h.2) (okE C a _ h.2).pe
    · cases h
  | .zip a b, e, tg, h, ht => by
    simp only [ckIt] at h
    split at h
    · simp only [Bool.and_eq_true] at h
      cases tg <;> simp only [itT, isTup] at ht <;> try (cases ht; done)
      exact i_zip C h.1.1.2 (ck_plain h.1.2) (ck_plain h.2) (okE C a _ h.1.2).pe (okE C b _ h.2).pe
    · cases h
  | .rev a, e, tg, h, _ => by
    simp only [ckIt] at h
    split at h
    · simp only [Bool.and_eq_true] at h
      exact i_rev C h.1 (ck_plain h.2) (okE C a _ h.2).pe
    · cases h
end
end Mp
namespace Mp
open PySem PySem.Spec PyProof.Rows L2
section
variable {c : Cx0} {n : Nat} {X : Cx} {K : Ck} {e e1 e2 tg : Expr} {pos p2 : Pos} {env : Env}
theorem noswap {o : Option Expr} {l : Nat} (h : isLc e = false) : swapsWith e o l env = pure false := by
  cases e <;> first | rfl | cases h
theorem noswapS (h : isLc e = false) (l : Nat) : swapsWithSole [tg] e l env = pure false := noswap h
theorem noswap2 {l : Nat} (h : ∀ x p, tg ≠ .Name x p) : swapsWithSole [tg] e l env = pure false := by
  show swapsWith e (some tg) l env = pure false
  unfold swapsWith
  cases e <;> first | rfl | (cases tg <;> first | rfl | exact absurd rfl (h _ _))
theorem noswap3 {l : Nat} {y : Str} {p : Pos} (h : env.scope.names.lookup y = some .cell) : swapsWithSole [.Name y p] e l env = pure false := by
  show swapsWith e (some (.Name y p)) l env = pure false
  have hk : (env.kindOf y == some NameKind.local) = false := by
    have : env.kindOf y = some .cell := h
    rw [this]
    rfl
  unfold swapsWith
  cases e <;> first | rfl | (simp only [hk, Bool.and_false, Bool.false_and]; done) | (simp only [hk, Bool.and_false, Bool.false_and]; rfl)
theorem celNm_out (h : celNm K tg = true) : ∃ y p, tg = .Name y p ∧ K.sc.names.lookup y = some .cell := by
  unfold celNm at h
  split at h
  · split at h
    · rename_i e
      exact ⟨_, _, rfl, e⟩
    · cases h
  · cases h
theorem isTup_out {a b : Bool} (h : (!(a && b)) = true) : a = true → b = false := by cases a <;> cases b <;> simp_all
theorem stores_of {t : T} (ht : ckT K t tg = true) (h : isTup tg = true → isTup e = false) : swappedStores [tg] e env = pure none ∧ (assignEach [tg] env).map (·.2) = [assign tg env] := by
  cases t <;> simp only [ckT] at ht <;> first | (cases ht; done) | (split at ht <;> first | (cases ht; done) | skip)
  · exact ⟨rfl, rfl⟩
  · have := h rfl
    refine ⟨?_, rfl⟩
    cases e <;> first | rfl | cases this
  · exact ⟨rfl, rfl⟩
  · exact ⟨rfl, rfl⟩
theorem lcNm_out (h : lcNm K tg e = true) : ∃ y py x gs scope pos, tg = .Name y py ∧ e = .ListComp x gs scope pos ∧ (py.line == pos.line) = true ∧ K.sc.names.lookup y = some .local ∧ (scope.names.any fun (n, k) => n == y && (k == .local || k == .cell)) = false := by
  unfold lcNm at h
  split at h
  · simp only [Bool.and_eq_true, Bool.not_eq_true'] at h
    obtain ⟨⟨q1, q2⟩, q3⟩ := h
    refine ⟨_, _, _, _, _, _, rfl, rfl, q1, ?_, q3⟩
    split at q2
    · assumption
    · cases q2
  · cases h
theorem lc_out {elt : E} {t : T} {it : It} {cc : Oe} {own : List Nat} (h : ckE K (.lc elt t it cc own) e = true) : ∃ x tg iter ifs scope pos, e = .ListComp x [⟨tg, iter, ifs, 0⟩] scope pos ∧ ckIt K it iter = true ∧ itT it tg = true ∧ L2.blkC K.N K.sc scope (ownOf K.N own) = true ∧ tgB own t = true ∧ ckT (K.inner scope) t tg = true ∧ ckE (K.inner scope) elt x = true ∧
    ((ifs = [] ∧ cc = .none) ∨ ∃ y m, ifs = [y] ∧ cc = .some m ∧ ckO (K.inner scope) (.some m) (some y) = true) := by
  simp only [ckE, Bool.and_eq_true] at h
  obtain ⟨_, h⟩ := h
  split at h
  · simp only [Bool.and_eq_true] at h
    obtain ⟨⟨⟨⟨⟨⟨⟨_, h1⟩, h2⟩, h3⟩, h4⟩, h5⟩, h6⟩, h7⟩ := h
    refine ⟨_, _, _, _, _, _, rfl, h1, h2, h3, h4, h5, h6, ?_⟩
    split at h7
    · cases cc with
      | none => exact .inl ⟨rfl, rfl⟩
      | some m => cases h7
    · cases cc with
      | none => simp [ckO] at h7
      | some m => exact .inr ⟨_, m, rfl, rfl, h7⟩
    · cases h7
  · cases h
end
theorem swapped_par {x y : Str} {px py pt pt2 : Pos} {kt k2 : Nat} {env : Env} {a b : Expr} (hb : env.blockKind = .function) (hx : env.scope.names.lookup x = some .local) (hy : env.scope.names.lookup y = some .local) (hl : (px.line == py.line) = true) (hxy : x ≠ y) (pa : plainX a = true) (pb : plainX b = true)
    (hf : (foldedForSure 8 a && foldedForSure 8 b) = false) (hc : (constantsAlone 8 a && constantsAlone 8 b) = false) : swappedStores [.Tuple [.Name x px, .Name y py] kt pt] (.Tuple [a, b] k2 pt2) env = pure (some [x, y]) := by
  have kx : env.kindOf x = some .local := hx
  have ky : env.kindOf y = some .local := hy
  have hl' : py.line = px.line := (eq_of_beq hl).symm
  have yx : (y == x) = false := beq_eq_false_iff_ne.mpr fun h => hxy h.symm
  have hd : List.eraseDups [x, y] = [x, y] := by
    simp [List.eraseDups, List.eraseDupsBy, List.eraseDupsBy.loop, yx]
  unfold swappedStores
  simp only [hb, List.length_cons, List.length_nil, List.any_cons, List.any_nil, List.filterMap_cons, List.filterMap_nil, kx, ky, hl', List.head?_cons, Option.map_some, Option.getD_some, Expr.pos, List.all_cons, List.all_nil, Bool.and_true, hf, hc, hd, beq_self_eq_true, if_true, Bool.or_false]
  rw [if_neg (by decide)]
  rw [if_neg (by
    intro h
    rcases Bool.or_eq_true_iff.mp h with h | h
    · split at h
      · cases pa
      · cases h
    · split at h
      · cases pb
      · cases h)]
  simp
theorem s_par {c : Cx0} {n : Nat} {X : Cx} {K : Ck} (C : Ctx c n X K) (HH : K.hot = false) {i j : Nat} {x y : Str} {px py pt pos pt2 : Pos} {kt k2 : Nat} {a b : E} {e1 e2 : Expr} (hk : X.env.scope.kind = .function) (hi : K.sto i x = true) (hj : K.sto j y = true) (hij : i ≠ j) (hxy : x ≠ y) (hx : lclB K.sc x = true) (hy : lclB K.sc y = true) (hl : (px.line == py.line) = true)
    (ga : PA X [e1, e2] (tA c (gN c n) X (.cons a (.cons b .nil)))) (pa : plainX e1 = true) (pb : plainX e2 = true) (hf : (foldedForSure 8 e1 && foldedForSure 8 e2) = false) (hcc : (constantsAlone 8 e1 && constantsAlone 8 e2) = false) :
    PS X (.Assign [.Tuple [.Name x px, .Name y py] kt pt] (.Tuple [e1, e2] k2 pt2) pos) (tS c (gN c n) X (.par i j a b)) := by
  have lc : ∀ z, lclB K.sc z = true → X.env.scope.names.lookup z = some .local := fun z h => by
    unfold lclB at h
    rw [C.scope]
    split at h
    · assumption
    · cases h
  have hbk : X.env.blockKind = .function := by
    unfold Env.blockKind
    rw [hk]
    rfl
  refine PS.imp (ps_par (C.calm HH) C.nd (C.sto i x hi).1 (C.sto j y hj).1 hij (lc x hx) (lc y hy) ga (swapped_par hbk (lc x hx) (lc y hy) hl hxy pa pb hf hcc) rfl) fun D σ H ⟨L, Z, ρ, G, nx, rt, ct, Xm, R, hL, w, tk, en⟩ => ?_
  simp only [wpS] at w
  refine ⟨L, Z, ρ, G, Xm, _, R, hL, w, tk, fun rs ρ1 G1 vs H1 hx1 R1 q1 ap nw w1 => ?_⟩
  unfold parK at w1
  split at w1
  · rename_i u w0
    obtain ⟨v, t, e, q1, q2⟩ := q1
    subst e
    obtain ⟨w', t, e, q2, q3⟩ := q2
    subst e
    have q3 : t = [] := q3
    subst q3
    refine ⟨v, w', rfl, ?_⟩
    obtain ⟨h1, w2⟩ := setK_lt w1
    obtain ⟨h2, w3⟩ := setK_lt w2
    have hn : Or2 Z (Hds [Mp.R.u u, Mp.R.u w0] [v, w']) = Or2 Z (fun _ => False) := by
      congr 1
      funext a
      exact propext ⟨fun z => by rcases z with z | z | z <;> exact z, fun z => z.elim⟩
    rw [hn] at R1 q1 q2
    have R1' : Rep c.ca X.K L (Or2 Z (Hd (.u u) v)) σ H1 ρ1 G1 := by rw [hd_u]; exact R1
    obtain ⟨R2, s2⟩ := Rep.store (v := v) (sv := .u u) R1 hL h1 (fun a z => z.elim) (fun x a e => by cases e) (fun a z => z.elim) q1
    have q2' : RepU X.K H1 (Or2 (fp (σ.set i (some v)) (ρ1.set i (some (.u u))) G1) (Or2 Z fun _ => False)) w0 w' := RepU.ext (Ext.sub fun a z => z.elim (fun z => (s2 a z).elim .inl fun z => z.elim) .inr) w0 q2
    obtain ⟨R3, s3⟩ := Rep.store (v := w') (sv := .u w0) (N := fun _ => False) (by rw [or2_false]; exact R2) hL h2 (fun a z => z.elim) (fun x a e => by cases e) (fun a z => z.elim) q2'
    exact en.nx _ _ _ _ (fun a o e k => ⟨(hx1 a o e k).1, fun z => (hx1 a o e k).2 ((s3 a z).elim (fun z => (s2 a z).elim id fun z => z.elim) fun z => z.elim)⟩) R3 w3
  · exact w1.elim
section
variable {c : Cx0} {n : Nat} {Γ : Cal} {X : Cx} {K : Ck} {L Z : Addr → Prop} {σ : L2.St} {H : Hp} {ρ : Rho} {G : Hh}
/-- X() -/
theorem pmk_own0 {X : Cx} {C : Addr} {bmB : List Value} {B newId initId : String} {x : Str} {p pos : Pos} (F : ExcBaseFacts B newId initId bmB) (q : PySem.W.excIn X.K C bmB newId = true) (gC : X.mg x = some (.ref C)) (kC : PySem.W.keepIn X.K (.ref C) = true) (r : Raises X (.ref C)) (hg : Gl X x)
    (hdb : (x == ("__debug__" : Str)) = false) : PMk X (.Call (.Name x p) [] [] pos) (fun _ H Q => Q (.ref C) none H) := by
  intro pins s σ H Q I h
  refine wpAny_Call_Name_kw (ld_glob I hg gC ?_ hdb)
  refine PySem.W.callWith_K0 I.kIn kC ?_
  obtain ⟨bm, N, nm, qn, bs, hdct, sn, sub, ab, col, dd, k0, k1, k2, k3, k5, mN, hC, hN, hni, T⟩ := exc_obj I.kIn q
  refine wpAny_call_exc_subT F T hC hN hni (fun h' e hm => ?_) (Nat.zero_le _)
  exact mk_of I hm r h (I.hok.gone hm.new)
theorem s_rais (C : Ctx c n X K) (hh : K.hot = false) {k : Nat} {x : Str} {p pos pos2 : Pos} (hg : K.glob x = true) (hx : K.xnm.lookup k = some x) : PS X (.Raise (some (.Call (.Name x p) [] [] pos)) none pos2) (tS c Γ X (.rais k .nil)) := by
  refine ⟨fun pins s σ H D I ⟨L, Z, ρ, G, nx, rt, ct, Xm, R, hL, w, tk, en⟩ => ?_⟩
  obtain ⟨xk, gC, xc⟩ := C.rai k x hx
  obtain ⟨g1, g2, _⟩ := gl_of C hg
  simp only [wpS, wpEs, toUs] at w
  exact (ps_raise (C.calm hh) tk.2 (pmk_own0 PySem.F.excBase_ValueError xc.ex gC xc.kp (raises_own xc.ec.hs xc.ty) g1 g2)).run pins s σ H D I ⟨k, [], ρ, G, ⟨⟨rfl, xk⟩, rfl⟩, R, Ext.refl _ _, w⟩
/-- X(e) -/
theorem pmk_x1 (hc : X.calm = true) {m : Nat} (hr : Room m X.A) {C : Addr} {x f : Str} {a : Expr} {ta : TA} {p pos : Pos} (T : X1 X.K X.mg C x f) (ha : PA X [a] ta) (hp : plainX a = true) (hg : Gl X x) (hdb : (x == ("__debug__" : Str)) = false) :
    PMk X (.Call (.Name x p) [a] [] pos) (fun σ H Q => ta σ H fun vs H1 => ∃ v, vs = [v] ∧ ∀ d, H1 d = none → Q (.ref C) (some d) (upd H1 d (.xd [(f, v)]))) := by
  obtain ⟨qn, fI, ⟨e, T⟩ | ⟨e, T⟩ | ⟨e, T⟩⟩ := T
  · subst e
    exact pmk_number T hr ha hg hdb (star_cons hp) rfl
  · subst e
    exact pmk_name T hr ha hg hdb (star_cons hp) rfl
  · subst e
    exact pmk_path T hr ha hg hdb (star_cons hp) rfl
theorem s_rais1 (C : Ctx c n X K) (hh : K.hot = false) {k : Nat} {x : Str} {a : E} {p pos pos2 : Pos} (hg : K.glob x = true) (hx : K.xn1.lookup k = some x) (hck : ckE K a e = true) (ga : PA X [e] (tA c Γ X (.cons a .nil))) : PS X (.Raise (some (.Call (.Name x p) [e] [] pos)) none pos2) (tS c Γ X (.rais k (.cons a .nil))) := by
  refine ⟨fun pins s σ H D I ⟨L, Z, ρ, G, nx, rt, ct, Xm, R, hL, w, tk, en⟩ => ?_⟩
  obtain ⟨xk, T⟩ := C.rai1 k x hx
  obtain ⟨g1, g2, _⟩ := gl_of C hg
  simp only [wpS] at w
  refine (ps_raise (C.calm hh) tk.2 (pmk_x1 (C.calm hh) (C.room hh) T ga (ck_plain hck) g1 g2)).run pins s σ H D I ?_
  refine ⟨L, Z, ρ, G, Xm, fun rs ρ1 G1 => match rs with
    | [r] => toUs [r] ρ1 fun vs ρ2 => Xm k vs ρ2 G1
    | _ => False, R, hL, (by simp only [wpEs] at w ⊢; exact w), tk, fun rs ρ1 G1 vs H1 hx1 R1 q1 ap nw w1 => ?_⟩
  cases rs with
  | nil => exact w1.elim
  | cons r rs =>
    cases rs with
    | cons _ _ => exact w1.elim
    | nil =>
      obtain ⟨us, ρ2, k2, R2, q2, sub⟩ := toUs_ok (K0 := fun vs ρ2 => Xm k vs ρ2 G1) R1 q1 ap (fun p z => (nw p z).2) w1
      obtain ⟨v, t, e, _, et⟩ := q1
      have et : t = [] := et
      subst et e
      obtain ⟨u, eu, qu⟩ := repUs_one q2
      subst eu
      refine ⟨v, rfl, fun d hd => ?_⟩
      have hk : ∀ b o, H1 b = some o → upd H1 d (.xd [(c.P.xfs k, v)]) b = some o := fun b o e => by
        rw [upd_ne (ne_of_none e hd)]; exact e
      have nd : ¬ Or2 (fp σ ρ2 G1) Z d := fun z => by
        rcases z with z | z
        · obtain ⟨o, e, _⟩ := R2.mut z
          rw [hd] at e; cases e
        · obtain ⟨_, o, e⟩ := R2.zd _ z
          rw [hd] at e; cases e
      refine ⟨k, [u], ρ2, G1, ⟨⟨rfl, xk⟩, d, v, rfl, upd_same, nd, RepU.ext (fun b o e m => ⟨hk b o e, m⟩) u qu⟩, R2.heapExt hk, fun b o e m => ?_, k2⟩
      obtain ⟨h1, h2⟩ := hx1 b o e m
      exact ⟨hk b o h1, fun z => h2 (sub b z)⟩
theorem takes_no {X : Cx} {W : WX} (h : ∀ cls d σ H, ¬ W cls d σ H) : Takes X W := fun _ _ ⟨_, _, _, _, _, _, _, _, _, _, _, _, _, _, _, _, w⟩ => (h _ _ _ _ w).elim
/-- within a try -/
theorem Ctx.tr (C : Ctx c n X K) (hh : K.hot = false) {pn : List (Addr × Obj)} {xe : Value → Shared → Prop} (po : PassesOwn (model X.prog X.w) X.A X.env xe) : Ctx c n (X.tr pn xe) K where
  nm := C.nm
  nd := C.nd
  ww := C.ww
  calm := C.calm
  room := C.room
  unt := C.unt
  cold := C.cold
  frm := C.frm
  scope := C.scope
  sto := C.sto
  own := po
  blt := C.blt
  fns := C.fns
  rai := C.rai
  xcl := C.xcl
  xts := C.xts
  exn := fun a d k as e => by rw [C.cold hh] at e; cases e
  fdn := C.fdn
  fdc := C.fdc
  rai1 := C.rai1
  mth := C.mth
  mks := C.mks
  xfd := C.xfd
  kdc := C.kdc
  cst := C.cst
/-- within an except suite -/
theorem Ctx.sui (C : Ctx c n X K) (cu : Option (Addr × Option Addr × Nat × List U)) {a : Addr} {oe : Obj} {pn : List (Addr × Obj)} (h : ∀ b d k as, cu = some (b, d, k, as) → c.xs k = true ∧ b = a ∧ Zc (.ref (c.ca k)) d oe) (hd : ∃ vs, oe.data = .fields vs) :
    Ctx { c with cur := cu } n (X.suite a ((a, oe) :: pn)) { K with hot := true } where
  nm := C.nm
  nd := C.nd
  ww := C.ww
  calm := fun h => by cases h
  room := fun h => by cases h
  unt := C.unt
  cold := fun h => by cases h
  frm := C.frm
  scope := C.scope
  sto := C.sto
  own := PassesOwn.never
  blt := C.blt
  fns := C.fns
  rai := C.rai
  xcl := C.xcl
  xts := C.xts
  exn := fun b d k as e => by
    obtain ⟨xk, eb, hz⟩ := h b d k as e
    subst eb
    exact ⟨xk, X, oe, pn, rfl, hz, hd⟩
  fdn := C.fdn
  fdc := C.fdc
  rai1 := C.rai1
  mth := C.mth
  mks := C.mks
  xfd := C.xfd
  kdc := C.kdc
  cst := C.cst
/-- a body, with what is wished of its exceptions -/
noncomputable def tBd (c : Cx0) (Γ : Cal) (X : Cx) (b : Ss) (W : WX) : TS := fun D σ H => ∃ L Z ρ G nx rt ct Xb, Rep c.ca X.K L Z σ H ρ G ∧ (∀ a, L a → Z a) ∧ wpSs c.P Γ b ρ G nx rt ct Xb ∧
  (∀ cls d σ' H', (∃ k as ρ' G', RepX c X.K H' (Or2 (fp σ' ρ' G') Z) k as cls d ∧ Rep c.ca X.K L Z σ' H' ρ' G' ∧ Ext H (fp σ ρ G) H' (fp σ' ρ' G') ∧ Xb k as ρ' G') → W cls d σ' H') ∧ EndS c X L Z H (fp σ ρ G) nx rt ct D
theorem bd_ok {b : Ss} {sts : List Stmt} {W : WX} {pn : List (Addr × Obj)} {xe : Value → Shared → Prop} (ew : c.ca.w = X.w) (tk : Takes (X.tr pn xe) W) (h : PSs (X.tr pn xe) sts (tSs c Γ (X.tr pn xe) b)) : PSs (X.tr pn xe) sts (tBd c Γ X b W) :=
  PSs.imp h fun D σ H ⟨L, Z, ρ, G, nx, rt, ct, Xb, R, hL, w, hw, en⟩ => ⟨L, Z, ρ, G, nx, rt, ct, Xb, R, hL, w, ⟨ew, Takes.imp tk hw⟩, ⟨en.nx, en.rt, en.ct⟩⟩
/-- a clause's suite -/
noncomputable def tSu (c : Cx0) (n : Nat) (X : Cx) (b : Ss) (nm : Bool) (a : Addr) (cls : Value) (d : Option Addr) : TS := fun D σ H => ∃ k as L Z ρ G nx rt ct, (cls = .ref (c.ca k) ∧ c.xs k = true) ∧ Rep c.ca X.K L Z σ H ρ G ∧ (∀ a, L a → Z a) ∧
  wpSs c.P ⟨callN c.P n, if nm then some (a, d, k, as) else none⟩ b ρ G nx rt ct (fun _ _ _ _ => False) ∧ EndS c X L Z H (fp σ ρ G) nx rt ct D
/-- what is to be shown of a suite -/
noncomputable def SuOk (c : Cx0) (n : Nat) (X : Cx) (b : Ss) (nm : Bool) (sts : List Stmt) : Prop := ∀ (cu : Option (Addr × Option Addr × Nat × List U)) (a : Addr) (oe : Obj) (pn : List (Addr × Obj)), (nm = false → cu = none) → (∀ b d k as, cu = some (b, d, k, as) → c.xs k = true ∧ b = a ∧ Zc (.ref (c.ca k)) d oe) → (∃ vs, oe.data = .fields vs) →
  PSs (X.suite a ((a, oe) :: pn)) sts (tSs { c with cur := cu } ⟨callN c.P n, cu⟩ (X.suite a ((a, oe) :: pn)) b)
theorem su_ok {b : Ss} {nm : Bool} {sts : List Stmt} (ew : c.ca.w = X.w) (h : SuOk c n X b nm sts) (a : Addr) (oe : Obj) (cls : Value) (d : Option Addr) (pn : List (Addr × Obj)) (hz : Zc cls d oe) (hd : ∃ vs, oe.data = .fields vs) : PSs (X.suite a ((a, oe) :: pn)) sts (tSu c n X b nm a cls d) := by
  refine ⟨fun pins s σ H D I ⟨k, as, L, Z, ρ, G, nx, rt, ct, ⟨e, xk⟩, R, hL, w, en⟩ => ?_⟩
  subst e
  refine (h (if nm then some (a, d, k, as) else none) a oe pn (fun e => by rw [e]; rfl) (fun b' d' k' as' e => ?_) hd).run pins s σ H D I ⟨L, Z, ρ, G, nx, rt, ct, _, R, hL, w, ⟨ew, takes_no fun cls d σ' H' ⟨_, _, _, _, _, _, _, z⟩ => z⟩, ⟨en.nx, en.rt, en.ct⟩⟩
  cases nm with
  | false => cases e
  | true =>
    cases e
    exact ⟨xk, rfl, hz⟩
/-- the clauses, without names -/
noncomputable def HlOk (c : Cx0) (n : Nat) (X : Cx) (K : Ck) : Hs → List ExceptHandler → List (Value × (Addr → Value → Option Addr → TS)) → Prop
  | .nil, [], [] => True
  | .cons ks none b hs, .ExceptHandler (some (.Name x _)) none (y :: ys) _ :: hl, (v, ts) :: l => (∃ j, ks = [j] ∧ Names X x v ∧ ∀ k, c.xs k = true → PySem.W.exmOne X.K (.ref (c.ca k)) v = some (c.P.sup k j)) ∧ ts = tSu c n X b false ∧ SuOk c n X b false (y :: ys) ∧ HlOk c n X K hs hl l
  | _, _, _ => False
theorem hl_hds (ew : c.ca.w = X.w) : ∀ {hs : Hs} {hl : List ExceptHandler} {l : List (Value × (Addr → Value → Option Addr → TS))}, HlOk c n X K hs hl l → HdsOk X hl l
  | .nil, [], [], _ => .nil
  | .cons ks none b hs, .ExceptHandler (some (.Name x _)) none (y :: ys) _ :: hl, (v, ts) :: l, h => by
    obtain ⟨⟨j, _, hn, _⟩, e, su, r⟩ := h
    subst e
    exact .cons hn (fun a oe cls d pn hz hd => su_ok ew su a oe cls d pn hz hd) (hl_hds ew r)
theorem rx0 {Hh : Hp} {ex : Addr → Prop} {k : Nat} {as : List U} {cls : Value} {d : Option Addr} (h : RepX c X.K Hh ex k as cls d) : cls = .ref (c.ca k) ∧ c.xs k = true ∧ (as = [] → d = none) := by
  obtain ⟨⟨h1, h2⟩, h3⟩ := h
  refine ⟨h1, h2, fun e => ?_⟩
  subst e
  exact h3
theorem hl_many (hcur : c.cur = none) {D : Ends} {W0 : WX} {f0 : Addr → Prop} {H0 : Hp} {nx ct : Nx} {rt : Kc} {Xm : Xc} (en : EndS c X L Z H0 f0 nx rt ct D) (hL : ∀ a, L a → Z a)
    (hW : ∀ cls d σ' H', (∃ k as ρ' G', RepX c X.K H' (Or2 (fp σ' ρ' G') Z) k as cls d ∧ Rep c.ca X.K L Z σ' H' ρ' G' ∧ Ext H0 f0 H' (fp σ' ρ' G') ∧ Xm k as ρ' G') → W0 cls d σ' H') {k : Nat} {as : List U} {cls : Value} {d : Option Addr}
    (rx : RepX c X.K H (Or2 (fp σ ρ G) Z) k as cls d) (R : Rep c.ca X.K L Z σ H ρ G) (hx : Ext H0 f0 H (fp σ ρ G)) :
    ∀ {hs : Hs} {hl : List ExceptHandler} {l : List (Value × (Addr → Value → Option Addr → TS))}, HlOk c n X K hs hl l → wpHs c.P (gN c n) hs k as ρ G nx rt ct Xm → wMany X.K W0 D l cls d σ H
  | .nil, [], [], _, w => by
    simp only [wpHs] at w
    exact hW _ _ _ _ ⟨k, as, ρ, G, rx, R, hx, w⟩
  | .cons ks none b hs, .ExceptHandler (some (.Name x _)) none (y :: ys) _ :: hl, (v, ts) :: l, h, w => by
    obtain ⟨⟨j, e1, _, hm⟩, e2, _, r⟩ := h
    subst e1
    subst e2
    obtain ⟨q1, q2, q3⟩ := rx0 rx
    simp only [wpHs, List.any_cons, List.any_nil, Bool.or_false] at w
    obtain ⟨w1, w2⟩ := Br.out w
    refine ⟨_, by rw [q1]; exact hm k q2, fun e a na => ?_, fun e => hl_many hcur en hL hW rx R hx r (w2 e)⟩
    refine ⟨k, as, L, Z, ρ, G, nx, rt, ct, ⟨q1, q2⟩, R, hL, ?_, en.go hx⟩
    have := w1 e
    rw [gN, hcur] at this
    exact this
theorem s_tri_many (C : Ctx c n X K) (hh : K.hot = false) (hb : K.blk = none) {b : Ss} {hs : Hs} {sts : List Stmt} {h0 : ExceptHandler} {hl : List ExceptHandler} {l : List (Value × (Addr → Value → Option Addr → TS))} {pos : Pos} (gb : ∀ pn xe, PassesOwn (model X.prog X.w) X.A X.env xe → PSs (X.tr pn xe) sts (tSs c (gN c n) (X.tr pn xe) b))
    (gh : HlOk c n X K hs (h0 :: hl) l) : PS X (.Try sts (h0 :: hl) [] [] pos) (tS c (gN c n) X (.tri b hs)) := by
  refine ⟨fun pins s σ H D I ⟨L, Z, ρ, G, nx, rt, ct, Xm, R, hL, w, tk, en⟩ => ?_⟩
  obtain ⟨f1, f2⟩ := C.frm hb
  simp only [wpS] at w
  refine (ps_try_many f1 f2 tk.2 (tb := tBd c (gN c n) X b) (fun W pn xe tkW po => bd_ok C.ww tkW (gb pn xe po)) (hl_hds C.ww gh)).run pins s σ H D I ⟨L, Z, ρ, G, nx, rt, ct, _, R, hL, w, fun cls d σ' H' ⟨k, as, ρ', G', rx, R', hx, w'⟩ => ?_, en⟩
  exact hl_many (C.cold hh) en hL (fun _ _ _ _ z => z) rx R' hx gh w'
theorem s_tri_as (C : Ctx c n X K) (hh : K.hot = false) (hb : K.blk = none) {b b2 : Ss} {i j : Nat} {sts : List Stmt} {y : Stmt} {ys : List Stmt} {x z : Str} {v : Value} {np pos pos' : Pos} (gb : ∀ pn xe, PassesOwn (model X.prog X.w) X.A X.env xe → PSs (X.tr pn xe) sts (tSs c (gN c n) (X.tr pn xe) b))
    (hx : Names X x v) (hm : ∀ k, c.xs k = true → PySem.W.exmOne X.K (.ref (c.ca k)) v = some (c.P.sup k j)) (hi : K.sto i z = true) (hz : lclB K.sc z = true) (su : SuOk c n X b2 true (y :: ys)) :
    PS X (.Try sts [.ExceptHandler (some (.Name x np)) (some z) (y :: ys) pos'] [] [] pos) (tS c (gN c n) X (.tri b (.cons [j] (some i) b2 .nil))) := by
  refine ⟨fun pins s σ H D I ⟨L, Z, ρ, G, nx, rt, ct, Xm, R, hL, w, tk, en⟩ => ?_⟩
  obtain ⟨f1, f2⟩ := C.frm hb
  have lc : X.env.scope.names.lookup z = some .local := by
    unfold lclB at hz
    rw [C.scope]
    split at hz
    · assumption
    · cases hz
  simp only [wpS] at w
  refine (ps_try_as (i := i) f1 f2 C.nd (C.sto i z hi).1 lc hx tk.2 (tb := tBd c (gN c n) X b) (ts := tSu c n X b2 true) (fun W pn xe tkW po => bd_ok C.ww tkW (gb pn xe po)) (fun a oe cls d pn hz hd => su_ok C.ww su a oe cls d pn hz hd)).run pins s σ H D I ⟨L, Z, ρ, G, nx, rt, ct, _, R, hL, w, fun cls d σ' H' ⟨k, as, ρ', G', rx, R', hx', w'⟩ => ?_, en⟩
  obtain ⟨q1, q2, q3⟩ := rx0 rx
  simp only [wpHs, List.any_cons, List.any_nil, Bool.or_false] at w'
  obtain ⟨w1, w2⟩ := Br.out w'
  refine ⟨_, by rw [q1]; exact hm k q2, fun e a na => ?_, fun e => ⟨k, as, ρ', G', rx, R', hx', w2 e⟩⟩
  -- the dict that it has
  have hdx : ∃ dd, xcD dd as = d ∧ ∀ s x, xcV dd (c.P.xfs k) as = some (dd, s, x) → ∃ w, H' dd = some (.xd [(s, w)]) ∧ ¬ Or2 (fp σ' ρ' G') Z dd ∧ RepU X.K H' (Or2 (fp σ' ρ' G') Z) x w := by
    obtain ⟨_, rx⟩ := rx
    match as, rx with
    | [], rx =>
      have rx : d = none := rx
      exact ⟨a, by rw [rx]; rfl, fun s x e => by cases e⟩
    | [x], rx =>
      obtain ⟨dx, v, e1, e2, e3, q⟩ := rx
      exact ⟨dx, by rw [e1]; rfl, fun s y e => by cases e; exact ⟨v, e2, e3, q⟩⟩
  obtain ⟨dd, ed, hdv⟩ := hdx
  have w3 := w1 e a dd
  rw [ed] at w3
  obtain ⟨hi2, w3⟩ := setK_lt w3
  have R2 : Rep c.ca X.K L (Or2 Z fun _ => False) σ' H' ρ' G' := by rw [or2_false]; exact R'
  have qE : RepE X.K H' (Or2 (fp σ' ρ' G') Z) a (xcV dd (c.P.xfs k) as) (.ref a) := by
    refine ⟨rfl, ?_⟩
    match as, hdv with
    | [], _ => trivial
    | [x], hdv => exact hdv _ x rfl
    | _ :: _ :: _, _ => trivial
  obtain ⟨R3, s3⟩ := Rep.store (v := .ref a) (sv := .exc a (xcV dd (c.P.xfs k) as)) R2 hL hi2 (fun a z => z.elim) (fun x a e => by cases e) (fun a z => z.elim) (by rw [or2_false]; exact qE)
  have en2 := en.go hx'
  have hx3 : Ext H' (fp σ' ρ' G') H' (fp (σ'.set i (some (.ref a))) (ρ'.set i (some (.exc a (xcV dd (c.P.xfs k) as)))) G') := Ext.sub fun b q => (s3 b q).elim id fun z => z.elim
  have en3 := en2.go hx3
  refine ⟨k, as, L, Z, _, G', _, rt, _, ⟨q1, q2⟩, R3, hL, w3, ⟨fun σ6 H6 ρ6 G6 hx6 R6 k6 => ?_, fun σ6 r ρ6 G6 v6 H6 hx6 R6 k6 => en3.rt σ6 r ρ6 G6 v6 H6 hx6 R6 k6, fun σ6 H6 ρ6 G6 hx6 R6 k6 => ?_⟩⟩
  · obtain ⟨_, k6⟩ := setK_lt k6
    obtain ⟨R7, s7⟩ := R6.wiped (vs := [i])
    exact en3.nx (σ6.set i none) H6 (ρ6.set i none) G6 (hx6.trans (Ext.sub s7)) R7 k6
  · obtain ⟨_, k6⟩ := setK_lt k6
    obtain ⟨R7, s7⟩ := R6.wiped (vs := [i])
    exact en3.ct (σ6.set i none) H6 (ρ6.set i none) G6 (hx6.trans (Ext.sub s7)) R7 k6
end
/-- the clauses, as the check lets them by -/
noncomputable def HkOk (c : Cx0) (n : Nat) (X : Cx) (K : Ck) : Hs → List ExceptHandler → Prop
  | .nil, [] => True
  | .cons ks sl b hs, .ExceptHandler (some (.Name x _)) nm (y :: ys) _ :: hl => (∃ j v, ks = [j] ∧ Names X x v ∧ ∀ k, c.xs k = true → PySem.W.exmOne X.K (.ref (c.ca k)) v = some (c.P.sup k j)) ∧ (match sl, nm with
      | some i, some z => K.sto i z = true ∧ lclB K.sc z = true
      | none, none => True
      | _, _ => False) ∧
    (∀ (cu : Option (Addr × Option Addr × Nat × List U)) (a : Addr) (oe : Obj) (pn : List (Addr × Obj)), True → (∀ b d k as, cu = some (b, d, k, as) → c.xs k = true ∧ b = a ∧ Zc (.ref (c.ca k)) d oe) → (∃ vs, oe.data = .fields vs) →
      PSs (X.suite a ((a, oe) :: pn)) (y :: ys) (tSs { c with cur := cu } ⟨callN c.P n, cu⟩ (X.suite a ((a, oe) :: pn)) b)) ∧ HkOk c n X K hs hl
  | _, _ => False
theorem hk_hl {c : Cx0} {n : Nat} {X : Cx} {K : Ck} : ∀ {hs : Hs} {hl : List ExceptHandler}, HkOk c n X K hs hl → noAs hs = true → ∃ l, HlOk c n X K hs hl l
  | .nil, [], _, _ => ⟨[], trivial⟩
  | .cons ks none b hs, .ExceptHandler (some (.Name x _)) nm (y :: ys) _ :: hl, h, ha => by
    obtain ⟨⟨j, v, e, hn, hm⟩, h2, su, r⟩ := h
    obtain ⟨l, hl⟩ := hk_hl r ha
    cases nm with
    | some z => exact h2.elim
    | none => exact ⟨(v, _) :: l, ⟨j, e, hn, hm⟩, rfl, fun cu a oe pn hcu h hd => su cu a oe pn trivial h hd, hl⟩
  | .cons ks (some i) b hs, hl, _, ha => by cases ha
theorem hk_as {c : Cx0} {n : Nat} {X : Cx} {K : Ck} {ks : List Nat} {i : Nat} {b2 : Ss} {hd : ExceptHandler} {hl : List ExceptHandler} (h : HkOk c n X K (.cons ks (some i) b2 .nil) (hd :: hl)) : ∃ x z y ys p p2, hd = .ExceptHandler (some (.Name x p)) (some z) (y :: ys) p2 ∧ hl = [] ∧ (∃ j v, ks = [j] ∧ Names X x v ∧ ∀ k, c.xs k = true → PySem.W.exmOne X.K (.ref (c.ca k)) v = some (c.P.sup k j)) ∧ (K.sto i z = true ∧ lclB K.sc z = true) ∧
    (∀ (cu : Option (Addr × Option Addr × Nat × List U)) (a : Addr) (oe : Obj) (pn : List (Addr × Obj)), True → (∀ b d k as, cu = some (b, d, k, as) → c.xs k = true ∧ b = a ∧ Zc (.ref (c.ca k)) d oe) → (∃ vs, oe.data = .fields vs) →
      PSs (X.suite a ((a, oe) :: pn)) (y :: ys) (tSs { c with cur := cu } ⟨callN c.P n, cu⟩ (X.suite a ((a, oe) :: pn)) b2)) := by
  match hd, hl, h with
  | .ExceptHandler (some (.Name x _)) (some z) (y :: ys) _, [], h => exact ⟨x, z, y, ys, _, _, rfl, rfl, h.1, h.2.1, h.2.2.1⟩
  | .ExceptHandler (some (.Name x _)) none (y :: ys) _, _, h => exact h.2.1.elim
theorem okTri {c : Cx0} {n : Nat} {X : Cx} {K : Ck} (C : Ctx c n X K) (hh : K.hot = false) (hb : K.blk = none) {b : Ss} {hs : Hs} {x : List Stmt} {hd : ExceptHandler} {hl : List ExceptHandler} {pos : Pos} (gb : ∀ pn xe, PassesOwn (model X.prog X.w) X.A X.env xe → PSs (X.tr pn xe) x (tSs c (gN c n) (X.tr pn xe) b))
    (hq : HkOk c n X K hs (hd :: hl)) (h4 : oneAs hs = true) (many : noAs hs = true → PS X (.Try x (hd :: hl) [] [] pos) (tS c (gN c n) X (.tri b hs))) : PS X (.Try x (hd :: hl) [] [] pos) (tS c (gN c n) X (.tri b hs)) := by
  cases hs with
  | nil => exact many rfl
  | cons ks sl b2 hs2 =>
    cases sl with
    | none => exact many h4
    | some i =>
      cases hs2 with
      | cons _ _ _ _ => cases h4
      | nil =>
        obtain ⟨xx, zz, y, ys, p, p2, e1, e2, ⟨j, v, e, hn, hm⟩, ⟨h5, h6⟩, su⟩ := hk_as hq
        subst e1 e2 e
        exact s_tri_as C hh hb gb hn hm h5 h6 fun cu a oe pn _ h hd => su cu a oe pn trivial h hd
theorem lcE_out {a : E} (h : (match a with
  | .lc _ _ _ _ _ => true
  | _ => false) = true) : ∃ elt t it cc own, a = .lc elt t it cc own := by
  cases a <;> first | exact ⟨_, _, _, _, _, rfl⟩ | cases h
theorem nmT_out {t : T} (h : (match t with
  | .nm _ => true
  | _ => false) = true) : ∃ i, t = .nm i := by
  cases t <;> first | exact ⟨_, rfl⟩ | cases h
mutual
theorem okS {c : Cx0} {n : Nat} {X : Cx} {K : Ck} (C : Ctx c n X K) (hb : K.blk = none) (hk : X.env.scope.kind = .function) : ∀ (m : S) (s : Stmt), ckS K m s = true → PS X s (tS c (gN c n) X m)
  | .no, s, h => ⟨fun pins s σ H D I h => by
      obtain ⟨L, Z, ρ, G, nx, rt, ct, Xm, R, hL, w, tk, en⟩ := h
      simp only [wpS] at w⟩
  | .ex a, s, h => by
    simp only [ckS] at h
    split at h
    · simp only [Bool.and_eq_true, Bool.not_eq_true'] at h
      exact s_ex (okE C a _ h.1).pe (noswap h.2)
    · cases h
  | .asg t a, s, h => by
    simp only [ckS] at h
    split at h
    · rename_i tg e pos
      simp only [Bool.and_eq_true] at h
      obtain ⟨⟨⟨h1, h2⟩, h3⟩, h4⟩ := h
      obtain ⟨k1, k2⟩ := stores_of (env := X.env) h1 (isTup_out h3)
      cases hl : isLc e with
      | false => exact s_asg (okE C a _ h2).pe (okT C t _ h1) (noswapS hl _) k1 k2
      | true =>
        rw [hl] at h4
        simp only [Bool.not_true, Bool.false_or] at h4
        rcases Bool.or_eq_true_iff.mp h4 with h4 | h4
        · rcases Bool.or_eq_true_iff.mp h4 with h4 | h4
          · exact s_asg (okE C a _ h2).pe (okT C t _ h1) (noswap2 (fun x p z => by rw [z] at h4; cases h4)) k1 k2
          · obtain ⟨y, p, e1, e2⟩ := celNm_out h4
            subst e1
            exact s_asg (okE C a _ h2).pe (okT C t _ h1) (noswap3 (by rw [C.scope]; exact e2)) k1 k2
        simp only [Bool.and_eq_true] at h4
        obtain ⟨⟨⟨hh, h5⟩, h6⟩, h7⟩ := h4
        have HH := hot_no hh
        obtain ⟨elt, t2, it, cc, own, e8⟩ := lcE_out h6
        subst e8
        obtain ⟨i, e8⟩ := nmT_out h7
        subst e8
        obtain ⟨y, py, x0, gs, scope, lpos, et, ee, q1, q2, q3⟩ := lcNm_out h5
        obtain ⟨x, tg2, iter, ifs, scope2, lpos2, e2, r1, r2, r3, r4, r5, r6, r7⟩ := lc_out h2
        rw [e2] at ee
        cases ee
        subst et
        subst e2
        have hyl : X.env.scope.names.lookup y = some .local := by rw [C.scope]; exact q2
        have ok : BlkOk X.N X.env.scope scope (ownOf K.N own) := by
          rw [C.nm, C.scope]
          exact blkOk_by r3
        have hfo : ∀ x, foldedSetIterable iter X.env x = pure x := folded_of (okI_plain it r1)
        simp only [ckT] at h1
        obtain ⟨g1, g2, g3⟩ := C.sto _ _ h1
        refine PS.imp (ps_setLc (C.calm HH) C.nd g1 hyl (sw_true hk hyl q1 q3) (okI C it iter tg2 r1 r2) ok (fun s H Cl cl fp => g_blk rfl C.ww (okT (C.inner HH) t2 tg2 r5)) (tt := tB0 c (gN c n) X cc) (fun s H Cl cl fp => ?_) (fun s H Cl cl fp => e_blk rfl C.ww (okE (C.inner HH) elt x0 r6).pe) hfo) fun D σ H ⟨L, Z, ρ, G, nx, rt, ct, Xm, R, hL, w, tk, en⟩ => ?_
        · rcases r7 with ⟨z1, z2⟩ | ⟨y', m, z1, z2, r7⟩
          · subst z1 z2
            exact pts_nil
          · subst z1 z2
            exact pts_one (t_blk rfl C.ww ((okO (C.inner HH) (.some m) (some y') r7).2 m y' rfl rfl))
        · rw [own_ix]
          exact asg_go R hL w tk en (fun Q q => lc_go r4 q) fun v H1 h => nm_go h
    · cases h
  | .ret a, s, h => by
    simp only [ckS] at h
    split at h
    · exact s_ret (okE C a _ h).pe
    · cases h
  | .retn, s, h => by
    simp only [ckS] at h
    split at h
    · exact s_retn
    · cases h
  | .ite cd a b, s, h => by
    simp only [ckS] at h
    split at h
    · simp only [Bool.and_eq_true] at h
      exact s_ite (okE C cd _ h.1.1).pt (okSs C hb hk a _ h.1.2) (okSs C hb hk b _ h.2)
    · cases h
  | .for_ t it b, s, h => by
    simp only [ckS] at h
    split at h
    · simp only [Bool.and_eq_true] at h
      obtain ⟨⟨⟨⟨hh, h1⟩, h2⟩, h3⟩, h4⟩ := h
      exact s_for C.own (C.calm (hot_no hh)) (okI C it _ _ h2 h3) (okT C t _ h1) (okSs C hb hk b _ h4) (folded_of (okI_plain it h2))
    · cases h
  | .fork i t b, s, h => by
    simp only [ckS] at h
    split at h
    · simp only [Bool.and_eq_true] at h
      obtain ⟨⟨⟨hh, h1⟩, h2⟩, h3⟩ := h
      have h1' := h1
      unfold Ck.loc at h1'
      simp only [Bool.and_eq_true, decide_eq_true_eq] at h1'
      obtain ⟨k1, k2, _⟩ := okNm_out h1'.2
      exact s_fork C.own (C.calm (hot_no hh)) (pe_var (by rw [C.nm]; exact h1'.1.1) (by rw [C.scope]; exact vis_of h1'.1.2) k1 k2) (okT C t _ h2) (okSs C hb hk b _ h3)
    · cases h
  | .lend i m, s, h => by
    simp only [ckS] at h
    exact s_lend (okS C hb hk m s h)
  | .forx t a b, s, h => by
    simp only [ckS] at h
    split at h
    · simp only [Bool.and_eq_true] at h
      obtain ⟨⟨⟨hh, h1⟩, h2⟩, h3⟩ := h
      exact s_forx C.own (C.calm (hot_no hh)) (okE C a _ h1).pe (okT C t _ h2) (okSs C hb hk b _ h3) (folded_of (ck_plain h1))
    · cases h
  | .whl cd b, s, h => by
    simp only [ckS] at h
    split at h
    · simp only [Bool.and_eq_true] at h
      exact s_whl C.own (okE C cd _ h.1).pt (okSs C hb hk b _ h.2)
    · cases h
  | .rais k args, s, h => by
    simp only [ckS] at h
    split at h
    · simp only [Bool.and_eq_true, decide_eq_true_eq] at h
      obtain ⟨⟨h1, h2⟩, h3⟩ := h
      split at h3
      · exact s_rais C (hot_no h1) h2 (of_decide_eq_true h3)
      · simp only [Bool.and_eq_true, decide_eq_true_eq] at h3
        exact s_rais1 C (hot_no h1) h2 h3.1 h3.2 (okEs C (.cons _ .nil) [_] (by simp only [ckEs, Bool.and_eq_true]; exact ⟨h3.2, trivial⟩)).pa
      · cases h3
    · cases h
  | .tri b hs, s, h => by
    simp only [ckS] at h
    split at h
    · rename_i x hd hl pos
      simp only [Bool.and_eq_true] at h
      obtain ⟨⟨⟨h1, h2⟩, h3⟩, h4⟩ := h
      have hh := hot_no h1
      have gb : ∀ pn xe, PassesOwn (model X.prog X.w) X.A X.env xe → PSs (X.tr pn xe) x (tSs c (gN c n) (X.tr pn xe) b) := fun pn xe po => okSs (C.tr hh po) hb hk b x h2
      have hq := okHs C hb hk hs (hd :: hl) h3
      have many : noAs hs = true → PS X (.Try x (hd :: hl) [] [] pos) (tS c (gN c n) X (.tri b hs)) := fun ha => by
        obtain ⟨l, hl⟩ := hk_hl hq ha
        exact s_tri_many C hh hb gb hl
      exact okTri C hh hb gb hq h4 many
    · cases h
  | .pass, s, h => by
    simp only [ckS] at h
    split at h
    · exact s_pass
    · cases h
  | .cont, s, h => by
    simp only [ckS] at h
    split at h
    · exact s_cont
    · cases h
  | .par i j a b, s, h => by
    simp only [ckS] at h
    split at h
    · simp only [Bool.and_eq_true, decide_eq_true_eq, Bool.not_eq_true'] at h
      obtain ⟨⟨⟨⟨⟨⟨⟨⟨⟨⟨⟨hh, h1⟩, h2⟩, h3⟩, h4⟩, h5⟩, h6⟩, h7⟩, h8⟩, h9⟩, h10⟩, h11⟩ := h
      refine s_par C hh hk h1 h2 h3 h4 h5 h6 h7 (okEs C _ _ ?_).pa (ck_plain h8) (ck_plain h9) h10 h11
      simp only [ckEs, Bool.and_eq_true]
      exact ⟨h8, h9, trivial⟩
    · cases h
theorem okHs {c : Cx0} {n : Nat} {X : Cx} {K : Ck} (C : Ctx c n X K) (hb : K.blk = none) (hk : X.env.scope.kind = .function) : ∀ (hs : Hs) (hl : List ExceptHandler), ckHs K hs hl = true → HkOk c n X K hs hl
  | .nil, hl, h => by
    simp only [ckHs] at h
    split at h
    · exact trivial
    · cases h
  | .cons ks sl b hs, hl, h => by
    simp only [ckHs] at h
    split at h
    · rename_i x np nm y ys pos hl
      simp only [Bool.and_eq_true] at h
      obtain ⟨⟨⟨⟨h1, h2⟩, h3⟩, h4⟩, h5⟩ := h
      split at h2
      · rename_i j
        have h2 := of_decide_eq_true h2
        obtain ⟨cw, cv, hm, _, _, hc⟩ := C.xts j x h2
        obtain ⟨g1, g2, g3⟩ := gl_of C h1
        refine ⟨⟨j, cv, rfl, ⟨g1, g2, hm.imp id fun z => ⟨z.1, z.2, g3⟩⟩, fun k xk => (hc k xk).1⟩, ?_, fun cu a oe pn _ hcu hd => okSs (C.sui cu hcu hd) hb hk b (y :: ys) h4, okHs C hb hk hs hl h5⟩
        split at h3
        · simp only [Bool.and_eq_true] at h3
          exact ⟨h3.1, h3.2⟩
        · trivial
        · cases h3
      · cases h2
    · cases h
theorem okSs {c : Cx0} {n : Nat} {X : Cx} {K : Ck} (C : Ctx c n X K) (hb : K.blk = none) (hk : X.env.scope.kind = .function) : ∀ (ms : Ss) (ss : List Stmt), ckSs K ms ss = true → PSs X ss (tSs c (gN c n) X ms)
  | .nil, ss, h => by
    cases ss with
    | nil => exact ss_nil
    | cons _ _ => simp [ckSs] at h
  | .cons m ms, ss, h => by
    cases ss with
    | nil => simp [ckSs] at h
    | cons s ss =>
      simp only [ckSs, Bool.and_eq_true] at h
      exact ss_cons (okS C hb hk m s h.1) (okSs C hb hk ms ss h.2)
end
end Mp
namespace Mp
open PySem PySem.Spec PyProof.Rows L2
section
variable {c : Cx0} {n : Nat} {Γ : Cal} {X : Cx} {K : Ck} {L Z Z' N : Addr → Prop} {σ : L2.St} {H H1 H2 : Hp} {ρ ρ0 ρ1 ρ2 : Rho} {G G1 G2 G' : Hh} {f ex : Addr → Prop} {x y v : V} {u w : U} {Qm : Kc} {r : R} {ca : Cs} {Kf : PySem.W.Frag} {D : Addr}
theorem pad_some {α : Type} {l : List (Option α)} {n i : Nat} {x : α} (h : (l ++ List.replicate n none)[i]? = some (some x)) : l[i]? = some (some x) := by
  by_cases hi : i < l.length
  · rwa [List.getElem?_append_left hi] at h
  · rw [List.getElem?_append_right (by omega)] at h
    have := List.mem_of_getElem? h
    rw [List.mem_replicate] at this
    cases this.2
theorem pad_keep {α : Type} {l : List (Option α)} {n i : Nat} {x : α} (h : l[i]? = some (some x)) : (l ++ List.replicate n none)[i]? = some (some x) := by
  obtain ⟨hi, _⟩ := List.getElem?_eq_some_iff.mp h
  rw [List.getElem?_append_left hi]
  exact h
/-- slots that hold nothing yet -/
theorem Rep.pad {m k : Nat} (R : Rep ca Kf L Z σ H ρ G) (e : m = k) : Rep ca Kf L Z (σ ++ List.replicate m none) H (ρ ++ List.replicate k none) G ∧ ∀ a, fp (σ ++ List.replicate m none) (ρ ++ List.replicate k none) G a ↔ fp σ ρ G a := by
  subst e
  have hfp : ∀ a, fp (σ ++ List.replicate m none) (ρ ++ List.replicate m none) G a ↔ fp σ ρ G a := fun a =>
    ⟨fun h => h.imp id fun ⟨i, u, h1, h2⟩ => ⟨i, u, pad_some h1, pad_some h2⟩, fun h => h.imp id fun ⟨i, u, h1, h2⟩ => ⟨i, u, pad_keep h1, pad_keep h2⟩⟩
  have hx : Ext H (Or2 (fp σ ρ G) Z) H (Or2 (fp (σ ++ List.replicate m none) (ρ ++ List.replicate m none) G) Z) := Ext.sub fun a z => z.elim (fun z => .inl ((hfp a).mp z)) .inr
  refine ⟨⟨by rw [List.length_append, List.length_append, R.len, List.length_replicate, List.length_replicate], fun i sv e => ?_, fun i j u w a h1 h2 h3 h4 => R.own i j u w a (pad_some h1) (pad_some h2) (pad_some h3) (pad_some h4), fun i u a h1 h2 => R.ownG i u a (pad_some h1) (pad_some h2), fun a o e => ?_, fun a z => ⟨fun q => (R.zd a z).1 ((hfp a).mp q), (R.zd a z).2⟩⟩, hfp⟩
  · obtain ⟨v, e1, q⟩ := R.slot i sv (pad_some e)
    exact ⟨v, pad_keep e1, q.ext hx (fun a o x n => ⟨x, fun z => n ((hfp a).mp z)⟩) fun _ _ _ _ _ e => e⟩
  · obtain ⟨ho, e1, q⟩ := R.heap a o e
    exact ⟨ho, e1, q.ext hx⟩
theorem fp_drop : ∀ a, fp [] [] G a → fp σ ρ G a := fun a h => h.imp id fun ⟨i, u, h1, _⟩ => by simp at h1
/-- the slots are left -/
theorem Rep.drop (R : Rep ca Kf L Z σ H ρ G) : Rep ca Kf L Z [] H [] G := by
  have hx : Ext H (Or2 (fp σ ρ G) Z) H (Or2 (fp [] [] G) Z) := Ext.sub fun a z => z.elim (fun z => .inl (fp_drop a z)) .inr
  refine ⟨rfl, fun i sv e => by simp at e, fun i j u w a h1 => by simp at h1, fun i u a h1 => by simp at h1, fun a o e => ?_, fun a z => ⟨fun q => (R.zd a z).1 (fp_drop a q), (R.zd a z).2⟩⟩
  obtain ⟨ho, e1, q⟩ := R.heap a o e
  exact ⟨ho, e1, q.ext hx⟩
theorem Ext.drop (h : Ext H f H1 (fp σ ρ G)) : Ext H f H1 (fp [] [] G) := fun a o e n => ⟨(h a o e n).1, fun z => (h a o e n).2 (fp_drop a z)⟩
/-- what a def hands back -/
theorem fin_ok {Q : R → Hh → Prop} (R : RepR ca Kf L Z σ H f H1 ρ G r v) (hx : Ext H f H1 (fp σ ρ G)) (h : fin r ρ G Q) : ∃ r' G', Q r' G' ∧ RepR ca Kf L Z [] H f H1 [] G' r' v ∧ Ext H f H1 (fp [] [] G') := by
  have same : ∀ {r : Mp.R}, RepR ca Kf L Z σ H f H1 ρ G r v → (∀ i, r ≠ .lv i) → (∃ G', Sub G' G ∧ Q r G') → ∃ r' G', Q r' G' ∧ RepR ca Kf L Z [] H f H1 [] G' r' v ∧ Ext H f H1 (fp [] [] G') := fun {r} R nl ⟨G', hs, q⟩ => by
    refine ⟨r, G', q, ⟨(R.rep.sub hs).drop, ?_, R.new⟩, (hx.subG hs).drop⟩
    have hs2 : Ext H1 (Or2 (fp σ ρ G) (Or2 Z (Hd r v))) H1 (Or2 (fp [] [] G') (Or2 Z (Hd r v))) := Ext.sub fun a z => z.elim (fun z => .inl (fp_sub hs a (fp_drop a z))) .inr
    have hv := R.val
    cases r with
    | u x => exact RepU.ext hs2 x hv
    | tmp x =>
      obtain ⟨p, o, e, e2, q⟩ := hv
      exact ⟨p, o, e, e2, q.ext hs2⟩
    | lv i => exact absurd rfl (nl i)
    | exc k => exact hv
  cases r with
  | u x => exact same R (fun i e => by cases e) h
  | tmp x => exact same R (fun i e => by cases e) h
  | exc k => exact (show False from h).elim
  | lv i =>
    have h' : finR (.lv i) ρ fun r' => ∃ G', Sub G' G ∧ Q r' G' := h
    unfold finR at h'
    simp only at h'
    have q' : σ[i]? = some (some v) := R.val
    cases hs : ρ[i]? with
    | none => rw [hs] at h'; exact h'.elim
    | some os =>
      rw [hs] at h'
      cases os with
      | none => exact h'.elim
      | some sv =>
        cases sv with
        | u x => exact h'.elim
        | fz t x => exact h'.elim
        | exc k => exact h'.elim
        | own x =>
          obtain ⟨G', hsub, q⟩ := h'
          have R0 := R.rep
          rw [hd_lv, or2_false] at R0
          obtain ⟨w, e1, p, o, e2, e3, qc⟩ := R0.slot i _ hs
          rw [q'] at e1
          cases e1
          subst e2
          have hHd : Hd (.tmp x) (.ref p) = One p := by
            funext a
            exact propext ⟨fun e => (V.ref.inj e).symm, fun e => by rw [show a = p from e]; rfl⟩
          have fpp : fp σ ρ G p := .inr ⟨i, x, hs, q'⟩
          have gp : G' p = none := by
            cases e : G' p with
            | none => rfl
            | some o => have := hsub p o e; rw [R0.ownG i x p hs q'] at this; cases this
          have np : ¬ fp [] [] G' p := fun z => by
            rcases z with ⟨o, z⟩ | ⟨j, u, z, _⟩
            · rw [gp] at z; cases z
            · simp at z
          have RD := (R0.sub hsub).drop
          have hx2 : Ext H1 (Or2 (fp σ ρ G) Z) H1 (Or2 (fp [] [] G') (Or2 Z (One p))) := Ext.sub fun a z => z.elim (fun z => .inl (fp_sub hsub a (fp_drop a z))) fun z => z.elim .inr fun z => by rw [show a = p from z]; exact .inl fpp
          refine ⟨.tmp x, G', q, ⟨?_, ?_, fun a z => ?_⟩, (hx.subG hsub).drop⟩
          · rw [hHd]
            refine ⟨rfl, fun i sv e => by simp at e, fun i j u w a h1 => by simp at h1, fun i u a h1 => by simp at h1, fun a ob e => ?_, fun a z => ?_⟩
            · obtain ⟨ho, h1, q⟩ := R0.heap a ob (hsub a ob e)
              exact ⟨ho, h1, q.ext hx2⟩
            · rcases z with z | z
              · exact RD.zd a z
              · rw [show a = p from z]
                exact ⟨np, o, e3⟩
          · rw [hHd]
            exact ⟨p, o, rfl, e3, qc.ext hx2⟩
          · have e : a = p := (V.ref.inj z).symm
            subst e
            exact ⟨newback hx (.inr fpp), fun z => (R0.zd a z).1 fpp⟩
end
/-- the tables that a check uses -/
structure Tb where
  fnm : List (Nat × Str)
  cnm : List (Nat × Str)
  cst : List (Str × U)
  xnm : List (Nat × Str) := []
  fdn : List (Nat × Str) := []
  mth : List (Nat × Nat × Str) := []
  mks : List (Nat × Nat × Str) := []
  xn1 : List (Nat × Str) := []
  kdn : List (Nat × Str) := []
noncomputable def Tb.ck (T : Tb) (N : List Str) (sc : Scope) : Ck := ⟨N, sc, none, T.fnm, T.cnm, T.cst, T.xnm, T.fdn, T.mth, T.mks, T.xn1, false, T.kdn⟩
/-- a def's text -/
structure FnTxt (T : Tb) (Kf : PySem.W.Frag) (d : Fn) (fa : Addr) (fd : FuncData) (ps : List Str) : Prop where
  ex : ∃ (x qual : Str) (st : Stmt) (N : List Str), Fun Kf x qual st fa fd ∧ Binds Kf fd ps [] ∧ FnScope N ps (defScope st) ∧ d.np = ps.length ∧ ps.length + d.nl = N.length ∧ ckSs (T.ck N (defScope st)) d.body (defBody st) = true
/-- the f-th def, in the program's text and behind the top -/
structure FnDat (T : Tb) (Kf : PySem.W.Frag) (mg : Str → Option Value) (f : Nat) (d : Fn) (fa : Addr) (fd : FuncData) (ps : List Str) : Prop where
  ex : ∃ (x qual : Str) (st : Stmt) (N : List Str), T.fnm.lookup f = some x ∧ mg x = some (.ref fa) ∧ Fun Kf x qual st fa fd ∧ Binds Kf fd ps [] ∧ FnScope N ps (defScope st) ∧ d.np = ps.length ∧ ps.length + d.nl = N.length ∧ ckSs (T.ck N (defScope st)) d.body (defBody st) = true
structure Env1 (c : Cx0) (T : Tb) (Kf : PySem.W.Frag) (mg : Str → Option Value) : Prop where
  fns : ∀ f x, T.fnm.lookup f = some x → ∃ d fa fd ps, c.P.fns f = some d ∧ FnDat T Kf mg f d fa fd ps
  blt : ∀ x ∈ bltNames, mg x = none
  cst : ∀ x v, (x, v) ∈ T.cst → ∃ w u, mg x = some u ∧ RelV w u ∧ ∀ H ex, RepU Kf H ex v w
  kdc : ∀ d x, T.kdn.lookup d = some x → ∃ a es n, mg x = some (.ref a) ∧ KDict Kf c.ca.w a es n ∧ KdR Kf a (c.P.kds d)
  fdn : ∀ f x, T.fdn.lookup f = some x → c.ca.fn f = x
  fdc : c.P.fdc = c.ca.fd
  rai1 : ∀ k x, T.xn1.lookup k = some x → c.xs k = true ∧ X1 Kf mg (c.ca k) x (c.P.xfs k)
  mth : ∀ f k m, T.mth.lookup f = some (k, m) → Cls Kf (c.ca k) ∧ ∃ d fa fd ps, c.P.fns f = some d ∧ Meth Kf (c.ca k) m fa ∧ FnTxt T Kf d fa fd ps
  mks : ∀ f k x, T.mks.lookup f = some (k, x) → mg x = some (.ref (c.ca k)) ∧ FdOk c.ca.ca c.ca.fn c.ca.fd Kf k ∧ ∃ d fa fd ps, c.P.fns f = some d ∧ Mk Kf (c.ca k) fa ∧ FnTxt T Kf d fa fd ps
  xfd : ∀ k f, c.xs k = true → c.P.xfd k = some f → c.P.xfs k = c.ca.fn f ∧ XfC Kf (c.ca k) ∧ PySem.W.findIn Kf (.ref (c.ca k)) (c.ca.fn f) = some none
  cur : c.cur = none
  rai : ∀ k x, T.xnm.lookup k = some x → c.xs k = true ∧ mg x = some (.ref (c.ca k)) ∧ XC Kf (c.ca k)
  xcl : ∀ k, c.xs k = true → ExcC Kf (c.ca k)
  xts : ∀ j y, T.cnm.lookup j = some y → ∃ (cw : V) (cv : Value), (mg y = some cv ∨ (mg y = none ∧ bootBuiltins y = some cv)) ∧ RelV cw cv ∧ (∀ u, RelV cw u → u = cv) ∧ ∀ k, c.xs k = true → PySem.W.exmOne Kf (.ref (c.ca k)) cv = some (c.P.sup k j) ∧ PySem.W.kitOne Kf (.ref (c.ca k)) cv = some (c.P.sup k j)
section
variable {P : Program} {w : World} {Kf : PySem.W.Frag} {mg : Str → Option Value} {base : Heap} {c : Cx0} {T : Tb}
theorem sp_len {f : Nat} {d : Fn} {n : Nat} (hd : c.P.fns f = some d) {vs : List V} {H : Hp} {Q : VK} {E : XK} (h : spN c (callN c.P n) Kf f vs H Q E) : vs.length = d.np := by
  obtain ⟨L, Z, svs, G, Xm, Qm, R, hL, w, _, _⟩ := h
  cases n with
  | zero => exact w.elim
  | succ n =>
    have hl : vs.length = svs.length := by
      have := R.len
      rwa [List.length_map, List.length_map] at this
    simp only [callN] at w
    obtain ⟨d', e, w⟩ := optK_out w
    rw [hd] at e
    cases e
    rw [hl]
    exact (startK_iff.mp w).1
theorem FnDat.txt {f : Nat} {d : Fn} {fa : Addr} {fd : FuncData} {ps : List Str} (F : FnDat T Kf mg f d fa fd ps) : FnTxt T Kf d fa fd ps := by
  obtain ⟨x, qual, st, N, _, _, h⟩ := F.ex
  exact ⟨x, qual, st, N, h⟩
theorem level (ew : c.ca.w = w) (En : Env1 c T Kf mg) : ∀ (n f : Nat) (d : Fn) (fa : Addr) (fd : FuncData) (ps : List Str), c.P.fns f = some d → FnTxt T Kf d fa fd ps → FnOk P w Kf mg base (L2.CX P w) (2 * n) fa fd ps (spN c (callN c.P n) Kf f)
  | 0, f, d, fa, fd, ps, hd, F => by
    have no : ∀ vs H Q E, ¬ spN c (callN c.P 0) Kf f vs H Q E := fun vs H Q E ⟨L, Z, svs, G, Xm, Qm, R, hL, w, _, _⟩ => w
    exact ⟨fun vs H Q E h => (no _ _ _ _ h).elim, fun A outer s H args us vs Q E hr he hb hv hs => (no _ _ _ _ hs).elim⟩
  | n + 1, f, d, fa, fd, ps, hd, F => by
    obtain ⟨x, qual, st, N, F1, hb, S, l1, l2, hck⟩ := F.ex
    refine (Fun.okX (k := 2 * n + 1) F1 S (fun vs H Q E h => by rw [sp_len hd h, l1]) fun cdv A outer s H vs Q E hr h => ?_ : FnOk P w Kf mg base (L2.CX P w) (2 * n + 1 + 1) fa fd ps (spN c (callN c.P (n + 1)) Kf f))
    have hlen := sp_len hd h
    obtain ⟨L, Z, svs, G, Xm, Qm, R, hL, w1, en, ee⟩ := h
    have hl : vs.length = svs.length := by
      have := R.len
      rwa [List.length_map, List.length_map] at this
    generalize hX : cxOf (L2.CX P w) P w Kf mg base N qual (defScope st) fa cdv A outer s H E = X
    have C : Ctx c n X (T.ck N (defScope st)) := by
      subst hX
      refine ⟨rfl, S.nd, ew, fun _ => rfl, fun _ => hr, Nat.lt_of_le_of_lt (Nat.add_le_add (Nat.le_add_right _ _) (by decide)) hr.un, fun _ => En.cur, fun _ => ⟨rfl, rfl⟩, rfl, fun i y hs => ?_, passes_of rfl, En.blt, fun g y hg => ?_, En.rai, En.xcl, En.xts, fun a d k as e => (by rw [En.cur] at e; cases e), En.fdn, En.fdc, En.rai1, fun g k m hg => ?_, fun g k m hg => ?_, En.xfd, fun d x h => by rw [← ew]; exact En.kdc d x h, En.cst⟩
      · unfold Ck.sto at hs
        simp only [Tb.ck, Bool.and_eq_true, decide_eq_true_eq] at hs
        refine ⟨of_decide_eq_true hs.1.1, ?_, .inl rfl⟩
        have hs := hs.2
        unfold locB at hs
        show Loc (defScope st) y
        split at hs
        · rename_i h; exact .inl h
        · rename_i h; exact .inr h
        · cases hs
      · obtain ⟨d2, fa2, fd2, ps2, hd2, F2⟩ := En.fns g y hg
        obtain ⟨y2, q2, st2, N2, k1, k2, F3, b3, _⟩ := F2.ex
        have hg' : T.fnm.lookup g = some y := hg
        rw [hg'] at k1
        cases k1
        exact ⟨fa2, fd2, ps2, k2, F3.kp, b3, level ew En n g d2 fa2 fd2 ps2 hd2 F2.txt⟩
      · obtain ⟨cl, d2, fa2, fd2, ps2, hd2, M, F2⟩ := En.mth g k m hg
        obtain ⟨_, _, _, _, _, b3, _⟩ := F2.ex
        exact ⟨cl, fa2, fd2, ps2, M, b3, level ew En n g d2 fa2 fd2 ps2 hd2 F2⟩
      · obtain ⟨hm, cl, d2, fa2, fd2, ps2, hd2, M, F2⟩ := En.mks g k m hg
        obtain ⟨_, _, _, _, _, b3, _⟩ := F2.ex
        exact ⟨hm, cl, fa2, fd2, ps2, M, b3, level ew En n g d2 fa2 fd2 ps2 hd2 F2⟩
    have hkind : X.env.scope.kind = .function := by subst hX; exact S.kind
    have hg : gN c n = ⟨callN c.P n, none⟩ := by rw [gN, En.cur]
    refine ⟨tSs c (gN c n) X d.body, okSs C rfl hkind d.body _ hck, ?_⟩
    rw [hg]
    simp only [callN] at w1
    obtain ⟨d', ed, w1⟩ := optK_out w1
    rw [hd] at ed
    cases ed
    obtain ⟨_, w1⟩ := startK_iff.mp w1
    have hpad : N.length - vs.length = d.nl := by rw [← l2, hlen, l1]; omega
    obtain ⟨Rp, hfp⟩ := R.pad (m := N.length - vs.length) (k := d.nl) hpad
    have hXK : X.K = Kf := by subst hX; rfl
    have hx0 : ∀ {H2 : Hp} {f2 : Addr → Prop}, Ext H (fp (start N vs) (svs.map some ++ List.replicate d.nl none) G) H2 f2 → Ext H (fp (vs.map some) (svs.map some) G) H2 f2 := fun {H2 f2} h a o e k => h a o e fun z => k ((hfp a).mp z)
    have hnew : ∀ {p : Addr}, (H p = none ∨ fp (start N vs) (svs.map some ++ List.replicate d.nl none) G p) → (H p = none ∨ fp (vs.map some) (svs.map some) G p) := fun {p} h => h.imp id fun z => (hfp p).mp z
    refine ⟨L, Z, _, G, _, _, _, _, by rw [hXK]; exact Rp, hL, w1, ?_, ⟨fun σ' H' ρ' G' hx R' k => ?_, fun σ' r ρ' G' v H' hx R' k => ?_, fun σ' H' ρ' G' hx R' k => k.elim⟩⟩
    · have tk0 : Takes X (fun cls d _ H => E cls d H) := by subst hX; exact takes_of rfl rfl rfl rfl
      refine ⟨by subst hX; exact ew, ?_⟩
      refine Takes.imp tk0 fun cls dd σ' H' ⟨k, as, ρ', G', rx, R', hx, G2, hs, hk⟩ => ?_
      rw [hXK] at rx R'
      refine ee k as G2 cls dd H' ((hx0 hx).subG hs).drop ?_ (R'.sub hs).drop hk
      obtain ⟨e, rx⟩ := rx
      refine ⟨e, ?_⟩
      have hs2 : Ext H' (Or2 (fp σ' ρ' G') Z) H' (Or2 (fp [] [] G2) Z) := Ext.sub fun a z => z.elim (fun z => .inl (fp_sub hs a (fp_drop a z))) .inr
      match as, rx with
      | [], rx => exact rx
      | [x], rx =>
        obtain ⟨dx, v, e1, e2, nx, q⟩ := rx
        exact ⟨dx, v, e1, e2, (hs2 dx _ e2 nx).2, RepU.ext hs2 x q⟩
    · rw [hXK] at R'
      have RR : RepR c.ca Kf L Z σ' H (fp (vs.map some) (svs.map some) G) H' ρ' G' (.u .non) .non := ⟨by rw [hd_u, or2_false]; exact R', by show RepU _ _ _ _ _; simp only [RepU], fun p z => z.elim⟩
      obtain ⟨r', G2, q, R2, hx2⟩ := fin_ok RR (hx0 hx) k
      exact en r' G2 .non H' hx2 R2 q
    · rw [hXK] at R'
      have RR : RepR c.ca Kf L Z σ' H (fp (vs.map some) (svs.map some) G) H' ρ' G' r v := ⟨R'.rep, R'.val, fun p z => ⟨hnew (R'.new p z).1, (R'.new p z).2⟩⟩
      obtain ⟨r', G2, q, R2, hx2⟩ := fin_ok RR (hx0 hx) k
      exact en r' G2 v H' hx2 R2 q
end
/-- what is to be shown of a law: its def hands back True for each script -/
noncomputable def lawOk (P : Pg) (n f : Nat) (ns : List Int) : Prop := callN P n f [.u (.lst (ns.map U.int))] (fun _ => none) (fun _ _ _ => False) fun r _ => r = .u (.bl true)
theorem repUs_ints {Kf : PySem.W.Frag} {H : Hp} {ex : Addr → Prop} : ∀ ns : List Int, RepUs Kf H ex (ns.map U.int) (ns.map V.int)
  | [] => by simp [RepUs]
  | k :: ns => by
    simp only [List.map_cons, RepUs]
    exact ⟨_, _, rfl, by simp only [RepU], repUs_ints ns⟩
theorem law_sp {c : Cx0} {Kf : PySem.W.Frag} {n f : Nat} {ns : List Int} {H : Hp} {a : Addr} (h : lawOk c.P n f ns) (hS : SqL Kf H a (ns.map V.int)) : spN c (callN c.P n) Kf f [.ref a] H (fun v _ => v = .bl true) fun _ _ _ => False := by
  refine ⟨fun _ => False, fun _ => False, [.u (.lst (ns.map U.int))], fun _ => none, _, _, ⟨rfl, fun i sv e => ?_, fun i j u w b h1 => ?_, fun i u b h1 => ?_, fun b o e => (by cases e), fun b z => False.elim z⟩, fun _ z => False.elim z, h, fun r G' v H' hx R q => ?_, fun k as G' cls d H' _ _ _ q => q⟩
  · match i, e with
    | 0, e =>
      have e' : sv = .u (.lst (ns.map U.int)) := by simpa using e.symm
      subst e'
      refine ⟨.ref a, rfl, ?_⟩
      show RepU _ _ _ _ _
      simp only [RepU]
      refine ⟨a, ns.map V.int, rfl, ?_, repUs_ints ns⟩
      rcases hS with hS | hS
      · refine .inl ⟨hS, fun z => ?_⟩
        rcases z with (⟨o, z⟩ | ⟨i, u, z, _⟩) | z
        · cases z
        · match i, z with
          | 0, z => simp at z
          | i + 1, z => simp at z
        · exact z
      · exact .inr hS
    | i + 1, e => simp at e
  · match i, h1 with
    | 0, h1 => simp at h1
    | i + 1, h1 => simp at h1
  · match i, h1 with
    | 0, h1 => simp at h1
    | i + 1, h1 => simp at h1
  · subst q
    have := R.val
    simpa only [Val, RepU] using this
end Mp
namespace Mp
open PySem (Str)
theorem lookup_mem {α β : Type} [DecidableEq α] {l : List (α × β)} {k : α} {v : β} (h : l.lookup k = some v) : (k, v) ∈ l := by
  induction l with
  | nil => cases h
  | cons p l ih =>
    obtain ⟨a, b⟩ := p
    rw [List.lookup_cons] at h
    by_cases e : k = a
    · subst e
      simp at h
      subst h
      exact List.mem_cons_self ..
    · have : (k == a) = false := by simp [e]
      rw [this] at h
      exact List.mem_cons_of_mem _ (ih h)
theorem fa_nil {α : Type} {Q : α → Prop} : ∀ p ∈ ([] : List α), Q p := fun _ h => by cases h
theorem fa_cons {α : Type} {Q : α → Prop} {a : α} {l : List α} (h : Q a) (t : ∀ p ∈ l, Q p) : ∀ p ∈ a :: l, Q p := fun p hp => by
  rcases List.mem_cons.mp hp with e | e
  · rw [e]; exact h
  · exact t p e
theorem optK_in {α : Type} {o : Option α} {x : α} {K : α → Prop} (e : o = some x) (h : K x) : optK o K := by
  rw [e]
  exact h
theorem atI_nat {α : Type} {xs : List α} {j : Nat} {x : α} (h : xs[j]? = some x) : L2.atI xs (j : Int) = some x := by
  first | exact L2.atI_nat h | skip
theorem cut_from {α : Type} (xs : List α) (j : Nat) : cut xs (some (j : Int)) none = xs.drop j := by
  unfold cut
  rw [HT.sIx_nat, HT.sIx_none]
  by_cases h : j ≤ xs.length
  · rw [Nat.min_eq_left h, List.take_of_length_le (by rw [List.length_drop]; omega)]
  · rw [Nat.min_eq_right (by omega), List.drop_of_length_le (Nat.le_refl _), List.drop_of_length_le (show xs.length ≤ j by omega), List.take_nil]
theorem cut_map {α β : Type} (f : α → β) (xs : List α) (lo hi : Option Int) : cut (xs.map f) lo hi = (cut xs lo hi).map f := by
  unfold cut
  rw [List.length_map, List.map_take, List.map_drop]
theorem allBl_map : ∀ xs : List Bool, allBl (xs.map U.bl) = some xs
  | [] => rfl
  | x :: xs => by simp only [List.map_cons, allBl, allBl_map xs, Option.map_some]
theorem Br.tt {b : Bool} {A B : Prop} (h : b = true) (a : A) : Br b A B := by
  subst h
  exact a
theorem Br.ff {b : Bool} {A B : Prop} (h : b = false) (a : B) : Br b A B := by
  subst h
  exact a
theorem divOk {j : Int} (h : 0 < j) (h2 : j.natAbs < 2 ^ 64) : DivOk j := ⟨h, Nat.lt_trans h2 (Nat.pow_lt_pow_right (by decide) (by decide))⟩
theorem mulOk_l {i j : Int} (h : i.natAbs < 2 ^ 64) : MulOk i j := .inl (.inl h)
theorem mulOk_r {i j : Int} (h : j.natAbs < 2 ^ 64) : MulOk i j := .inl (.inr h)
theorem eq_str (s t : List Nat) : eqU (.str s) (.str t) = decide (s = t) := by
  simp only [eqU]
  by_cases h : s = t <;> simp [h]
theorem eq_int (s t : Int) : eqU (.int s) (.int t) = decide (s = t) := by
  simp only [eqU]
  by_cases h : s = t <;> simp [h]
theorem ok_map {α : Type} {f : α → U} {n : Nat} (hf : ∀ a, okU n (f a) = true) : ∀ xs : List α, okUs n (xs.map f) = true
  | [] => by simp [okUs]
  | x :: xs => by simp only [List.map_cons, okUs, hf, ok_map hf xs, Bool.and_self]
theorem ok_ints (xs : List Int) : okU deepU (.lst (xs.map U.int)) = true := by
  show okUs 39 (xs.map U.int) = true
  exact ok_map (fun a => by simp only [okU]) xs
theorem ok_strs (xs : List (List Nat)) : okU deepU (.lst (xs.map U.str)) = true := by
  show okUs 39 (xs.map U.str) = true
  exact ok_map (fun a => by simp only [okU]) xs
/-- a loop whose turns keep I, the items in turn -/
theorem forI_pre {ck : Rho → Hh → Prop} {turn : U → Rho → Hh → (Rho → Hh → Prop) → Prop} {Q : Rho → Hh → Prop} {us : List U} (I : List U → Rho → Hh → Prop) : ∀ (ys xs : List U) {ρ : Rho} {G : Hh}, I ys ρ G →
    (∀ ys x zs ρ G, ∀ K : Rho → Hh → Prop, ys ++ x :: zs = us → I ys ρ G → (∀ ρ' G', I (ys ++ [x]) ρ' G' → K ρ' G') → turn x ρ G (fun ρ' G' => ∃ G'', Sub G'' G' ∧ ck ρ' G'' ∧ K ρ' G'')) →
    (∀ ρ G, I us ρ G → Q ρ G) → ys ++ xs = us → forI ck turn xs ρ G Q
  | ys, [], ρ, G, h0, _, hd, e => by
    rw [forI_nil]
    exact hd ρ G (by rw [← e]; simpa using h0)
  | ys, x :: xs, ρ, G, h0, hs, hd, e => by
    rw [forI_cons]
    refine hs ys x xs ρ G _ e h0 fun ρ' G' hI => ?_
    exact forI_pre I (ys ++ [x]) xs hI hs hd (by simpa using e)
theorem for_pre {ck : Rho → Hh → Prop} {turn : U → Rho → Hh → (Rho → Hh → Prop) → Prop} {Q : Rho → Hh → Prop} {us : List U} {ρ : Rho} {G : Hh} (I : List U → Rho → Hh → Prop) (h0 : I [] ρ G)
    (hs : ∀ ys x zs ρ G, ∀ K : Rho → Hh → Prop, ys ++ x :: zs = us → I ys ρ G → (∀ ρ' G', I (ys ++ [x]) ρ' G' → K ρ' G') → turn x ρ G (fun ρ' G' => ∃ G'', Sub G'' G' ∧ ck ρ' G'' ∧ K ρ' G''))
    (hd : ∀ ρ G, I us ρ G → Q ρ G) : forI ck turn us ρ G Q := forI_pre I [] us h0 hs hd rfl
/-- .. I does not count the items -/
theorem for_mem {ck : Rho → Hh → Prop} {turn : U → Rho → Hh → (Rho → Hh → Prop) → Prop} {Q : Rho → Hh → Prop} {us : List U} {ρ : Rho} {G : Hh} (I : Rho → Hh → Prop) (h0 : I ρ G)
    (hs : ∀ x ∈ us, ∀ ρ G, ∀ K : Rho → Hh → Prop, I ρ G → (∀ ρ' G', I ρ' G' → K ρ' G') → turn x ρ G (fun ρ' G' => ∃ G'', Sub G'' G' ∧ ck ρ' G'' ∧ K ρ' G''))
    (hd : ∀ ρ G, I ρ G → Q ρ G) : forI ck turn us ρ G Q :=
  for_pre (fun _ => I) h0 (fun ys x zs ρ G K e => hs x (by rw [← e]; simp) ρ G K) hd
/-- a comprehension whose turns leave the state as it was: g tells each item's answer -/
theorem lc_map {α : Type} {own : List Nat} {ck : Rho → Hh → Prop} {turn : U → Rho → Hh → (Option U → Rho → Hh → Prop) → Prop} {Q : List U → Rho → Hh → Prop} {f : α → U} {ρ : Rho} {G : Hh} (g : α → Option U) : ∀ {xs : List α} {acc : List U},
    (∀ x ∈ xs, ∀ N : Option U → Rho → Hh → Prop, N (g x) ρ G → turn (f x) ρ G (fun o ρ' G' => wipeK ρ' own fun ρ2 => ck ρ2 G' ∧ N o ρ2 G')) → Q (acc ++ xs.filterMap g) ρ G → lcI own ck turn (xs.map f) acc ρ G Q
  | [], acc, _, h => by
    rw [List.map_nil, lcI_nil]
    simpa using h
  | x :: xs, acc, hs, h => by
    rw [List.map_cons, lcI_cons]
    refine hs x (by simp) _ (lc_map g (fun y hy => hs y (by simp [hy])) ?_)
    rw [List.filterMap_cons] at h
    cases e : g x with
    | none => rw [e] at h; exact h
    | some y =>
      rw [e] at h
      show Q ((acc ++ [y]) ++ xs.filterMap g) ρ G
      rw [List.append_assoc]
      exact h
theorem filterMap_some {α β : Type} (g : α → β) : ∀ xs : List α, xs.filterMap (fun x => some (g x)) = xs.map g
  | [] => rfl
  | x :: xs => by rw [List.filterMap_cons, List.map_cons, filterMap_some g xs]
noncomputable def fnAt (l : List Str) (f : Nat) : Str := l.getD f ⟨#[f]⟩
noncomputable def okNs (l : List Str) : Bool := decide l.Nodup && l.all fun s => decide (2 ≤ s.cps.size)
theorem fnAt_inj {l : List Str} (h : okNs l = true) : ∀ f g, fnAt l f = fnAt l g → f = g := by
  simp only [okNs, Bool.and_eq_true, decide_eq_true_eq, List.all_eq_true] at h
  obtain ⟨h1, h2⟩ := h
  intro f g e
  unfold fnAt at e
  rw [List.getD_eq_getElem?_getD, List.getD_eq_getElem?_getD] at e
  by_cases hf : f < l.length
  · rw [List.getElem?_eq_getElem hf] at e
    by_cases hg : g < l.length
    · rw [List.getElem?_eq_getElem hg] at e
      have e' : l[f] = l[g] := e
      exact (List.getElem?_inj hf h1).mp (by rw [List.getElem?_eq_getElem hf, List.getElem?_eq_getElem hg, e'])
    · rw [List.getElem?_eq_none (by omega)] at e
      have := h2 _ (List.getElem_mem hf)
      have e' : l[f] = ⟨#[g]⟩ := e
      rw [e'] at this
      simp at this
  · rw [List.getElem?_eq_none (by omega)] at e
    by_cases hg : g < l.length
    · rw [List.getElem?_eq_getElem hg] at e
      have := h2 _ (List.getElem_mem hg)
      have e' : ⟨#[f]⟩ = l[g] := e
      rw [← e'] at this
      simp at this
    · rw [List.getElem?_eq_none (by omega)] at e
      have e' : (⟨#[f]⟩ : Str) = ⟨#[g]⟩ := e
      simpa using e'
/-- the exceptions that may be raised -/
theorem xs_of {α : Type} [DecidableEq α] {β : Type} {l m : List (α × β)} {p : α → Prop} {k : α} (h : ((l.lookup k).isSome || (m.lookup k).isSome) = true) (h1 : ∀ q ∈ l, p q.1) (h2 : ∀ q ∈ m, p q.1) : p k := by
  rcases Bool.or_eq_true_iff.mp h with h | h
  · obtain ⟨x, hx⟩ := Option.isSome_iff_exists.mp h
    exact h1 (k, x) (lookup_mem hx)
  · obtain ⟨x, hx⟩ := Option.isSome_iff_exists.mp h
    exact h2 (k, x) (lookup_mem hx)
theorem ins_in {o : Option O} {k : Nat} {fs : List (Nat × U)} {K : Nat → List (Nat × U) → Prop} (e : o = some (.ins k fs)) (h : K k fs) : (match (generalizing := false) o with
    | some (.ins k fs) => K k fs
    | _ => False) := by
  rw [e]
  exact h
theorem vw_con {G : Hh} {a : PySem.Addr} {c : U} {ρ : Rho} {K : U → Prop} (e : G a = some (.con c)) (h : K c) : vwK (.u (.ref a)) ρ G K := by
  simp only [vwK, vw, e]
  exact h
theorem put_self {G : Hh} {a : PySem.Addr} {o : O} : put G a o a = some o := if_pos rfl
theorem put_ne {G : Hh} {a b : PySem.Addr} {o : O} (h : b ≠ a) : put G a o b = G b := if_neg h
theorem put_at {G : Hh} {a b : PySem.Addr} {o : O} {v : Option O} (h : b ≠ a) (k : G b = v) : put G a o b = v := (put_ne h).trans k
end Mp
namespace Mp
open PySem PySem.Spec PyProof.Rows L2
end Mp
namespace Gp
open PySem Mp
noncomputable def k_blocks_NAMED : U := .str [97, 98, 99, 100, 101, 102, 103, 104, 105, 106, 107, 108, 109, 110, 111, 112, 113, 114, 115, 116, 117, 118, 119, 120, 121, 122, 48, 49, 50, 51, 52, 53, 54, 55, 56, 57]
noncomputable def k_signs_SIGNS : U := .str [32, 33, 34, 35, 36, 38, 39, 40, 41, 42, 43, 44, 45, 46, 47, 48, 49, 50, 51, 52, 53, 54, 55, 56, 57, 58, 59, 60, 61, 62, 63, 64, 65, 66, 67, 68, 69, 70, 71, 72, 73, 74, 75, 76, 77, 78, 79, 80, 81, 82, 83, 84, 85, 86, 87, 88, 89, 90, 91, 92, 93, 94, 95, 96, 97, 98, 99, 100, 101, 102, 103, 104, 105, 106, 107, 108, 109, 110, 111, 112, 113, 114, 115, 116, 117, 118, 119, 120, 121, 122, 123, 124, 125, 126]
noncomputable def signs_number_of_body : Ss := (.cons (.ret (.bmeth .sindex (.cst (k_signs_SIGNS)) (.cons (.loc 0) .nil))) .nil)
noncomputable def signs_number_of_fn : Fn := ⟨1, 0, signs_number_of_body⟩
noncomputable def signs_sign_of_body : Ss := (.cons (.ret (.idx (.cst (k_signs_SIGNS)) (.loc 0))) .nil)
noncomputable def signs_sign_of_fn : Fn := ⟨1, 0, signs_sign_of_body⟩
noncomputable def signs_is_text_body : Ss := (.cons (.ret (.and_ (.isin (.loc 0) [.str]) (.cons (.cmp .le (.bcall .len (.cons (.loc 0) .nil)) (.loc 1)) (.cons (.bcall .all (.cons (.lc (.cmp .inn (.loc 2) (.cst (k_signs_SIGNS))) (.nm 2) (.seq (.loc 0)) .none [2]) .nil)) .nil)))) .nil)
noncomputable def signs_is_text_fn : Fn := ⟨2, 1, signs_is_text_body⟩
noncomputable abbrev F_signs_is_text : Nat := 2
noncomputable def signs_numbers_of_body : Ss := (.cons (.ret (.lc (.call 0 (.cons (.loc 1) .nil)) (.nm 1) (.seq (.loc 0)) .none [1])) .nil)
noncomputable def signs_numbers_of_fn : Fn := ⟨1, 1, signs_numbers_of_body⟩
noncomputable def things_is_number_body : Ss := (.cons (.ret (.and_ (.isin (.loc 0) [.int]) (.cons (.not_ (.isin (.loc 0) [.bool])) (.cons (.chain .le .le (.int 0) (.loc 0) (.cst (.int 999999999))) .nil)))) .nil)
noncomputable def things_is_number_fn : Fn := ⟨1, 0, things_is_number_body⟩
noncomputable abbrev F_things_is_number : Nat := 4
noncomputable def things_is_within_r1 : Ss := (.cons (.ret (.bcall .all (.cons (.lc (.call 5 (.cons (.loc 2) (.cons (.bin .sub (.loc 1) (.int 1)) .nil))) (.nm 2) (.seq (.loc 0)) .none [2]) .nil))) .nil)
noncomputable def things_is_within_r2 : Ss := (.cons (.ite (.or_ (.not_ (.isin (.loc 0) [.tuple])) (.cons (.cmp .gt (.bcall .len (.cons (.loc 0) .nil)) (.cst (.int 100))) (.cons (.cmp .lt (.loc 1) (.int 1)) .nil))) (.cons (.ret (.bl false)) .nil) .nil) things_is_within_r1)
noncomputable def things_is_within_body : Ss := (.cons (.ite (.or_ (.call 4 (.cons (.loc 0) .nil)) (.cons (.call 2 (.cons (.loc 0) (.cons (.cst (.int 400)) .nil))) .nil)) (.cons (.ret (.cmp .gt (.loc 1) (.int 0))) .nil) .nil) things_is_within_r2)
noncomputable def things_is_within_fn : Fn := ⟨2, 1, things_is_within_body⟩
noncomputable def things_is_thing_body : Ss := (.cons (.ret (.call 5 (.cons (.loc 0) (.cons (.cst (.int 8)) .nil)))) .nil)
noncomputable def things_is_thing_fn : Fn := ⟨1, 0, things_is_thing_body⟩
noncomputable def things_words_of_f1 : Ss := (.cons (.ex (.bmeth .extend (.loc 1) (.cons (.call 7 (.cons (.loc 2) .nil)) .nil))) .nil)
noncomputable def things_words_of_r2 : Ss := (.cons (.ret (.loc 1)) .nil)
noncomputable def things_words_of_r3 : Ss := (.cons (.asg (.nm 1) (.lst (.cons (.int 2) (.cons (.bcall .len (.cons (.loc 0) .nil)) .nil)))) (.cons (.for_ (.nm 2) (.seq (.loc 0)) things_words_of_f1) things_words_of_r2))
noncomputable def things_words_of_r4 : Ss := (.cons (.ite (.isin (.loc 0) [.str]) (.cons (.ret (.bin .add (.lst (.cons (.int 1) (.cons (.bcall .len (.cons (.loc 0) .nil)) .nil))) (.call 3 (.cons (.loc 0) .nil)))) .nil) .nil) things_words_of_r3)
noncomputable def things_words_of_body : Ss := (.cons (.ite (.isin (.loc 0) [.int]) (.cons (.ret (.lst (.cons (.int 0) (.cons (.loc 0) .nil)))) .nil) .nil) things_words_of_r4)
noncomputable def things_words_of_fn : Fn := ⟨1, 2, things_words_of_body⟩
noncomputable def things_text_at_r1 : Ss := (.cons (.asg (.nm 3) (.bin .add (.loc 3) (.call 1 (.cons (.loc 4) .nil)))) .nil)
noncomputable def things_text_at_f2 : Ss := (.cons (.ite (.not_ (.chain .le .lt (.int 0) (.loc 4) (.bcall .len (.cons (.cst (k_signs_SIGNS)) .nil)))) (.cons (.rais 1 .nil) .nil) .nil) things_text_at_r1)
noncomputable def things_text_at_r3 : Ss := (.cons (.ret (.loc 3)) .nil)
noncomputable def things_text_at_body : Ss := (.cons (.asg (.nm 3) (.str [])) (.cons (.for_ (.nm 4) (.seq (.slc (.loc 0) (.some (.loc 1)) (.some (.bin .add (.loc 1) (.loc 2))))) things_text_at_f2) things_text_at_r3))
noncomputable def things_text_at_fn : Fn := ⟨3, 2, things_text_at_body⟩
noncomputable def things_thing_at_f1 : Ss := (.cons (.asg (.tp (.cons (.nm 6) (.cons (.nm 1) .nil))) (.call 9 (.cons (.loc 0) (.cons (.loc 1) (.cons (.bin .sub (.loc 2) (.int 1)) .nil))))) (.cons (.ex (.bmeth .append (.loc 4) (.cons (.loc 6) .nil))) .nil))
noncomputable def things_thing_at_r2 : Ss := (.cons (.ret (.tup (.cons (.bcall .tuple (.cons (.loc 4) .nil)) (.cons (.loc 1) .nil)))) .nil)
noncomputable def things_thing_at_r3 : Ss := (.cons (.asg (.nm 4) (.lst .nil)) (.cons (.asg (.nm 1) (.bin .add (.loc 1) (.int 2))) (.cons (.for_ (.nm 5) (.rng (.loc 3)) things_thing_at_f1) things_thing_at_r2)))
noncomputable def things_thing_at_r4 : Ss := (.cons (.ite (.or_ (.cmp .ne (.idx (.loc 0) (.loc 1)) (.int 2)) (.cons (.not_ (.chain .le .le (.int 0) (.loc 3) (.cst (.int 100)))) .nil)) (.cons (.rais 1 .nil) .nil) .nil) things_thing_at_r3)
noncomputable def things_thing_at_r5 : Ss := (.cons (.ite (.and_ (.cmp .eq (.idx (.loc 0) (.loc 1)) (.int 1)) (.cons (.chain .le .le (.int 0) (.loc 3) (.cst (.int 400))) (.cons (.cmp .le (.bin .add (.bin .add (.loc 1) (.int 2)) (.loc 3)) (.bcall .len (.cons (.loc 0) .nil))) .nil))) (.cons (.ret (.tup (.cons (.call 8 (.cons (.loc 0) (.cons (.bin .add (.loc 1) (.int 2)) (.cons (.loc 3) .nil)))) (.cons (.bin .add (.bin .add (.loc 1) (.int 2)) (.loc 3)) .nil)))) .nil) .nil) things_thing_at_r4)
noncomputable def things_thing_at_r6 : Ss := (.cons (.asg (.nm 3) (.idx (.loc 0) (.bin .add (.loc 1) (.int 1)))) (.cons (.ite (.and_ (.cmp .eq (.idx (.loc 0) (.loc 1)) (.int 0)) (.cons (.chain .le .le (.int 0) (.loc 3) (.cst (.int 999999999))) .nil)) (.cons (.ret (.tup (.cons (.loc 3) (.cons (.bin .add (.loc 1) (.int 2)) .nil)))) .nil) .nil) things_thing_at_r5))
noncomputable def things_thing_at_body : Ss := (.cons (.ite (.or_ (.cmp .lt (.loc 2) (.int 1)) (.cons (.cmp .gt (.bin .add (.loc 1) (.int 2)) (.bcall .len (.cons (.loc 0) .nil))) .nil)) (.cons (.rais 1 .nil) .nil) .nil) things_thing_at_r6)
noncomputable def things_thing_at_fn : Fn := ⟨3, 4, things_thing_at_body⟩
noncomputable def blocks_is_name_r1 : Ss := (.cons (.ret (.bcall .all (.cons (.lc (.cmp .inn (.loc 1) (.cst (k_blocks_NAMED))) (.nm 1) (.seq (.loc 0)) .none [1]) .nil))) .nil)
noncomputable def blocks_is_name_body : Ss := (.cons (.ite (.or_ (.not_ (.isin (.loc 0) [.str])) (.cons (.not_ (.chain .le .le (.int 1) (.bcall .len (.cons (.loc 0) .nil)) (.cst (.int 8)))) .nil)) (.cons (.ret (.bl false)) .nil) .nil) blocks_is_name_r1)
noncomputable def blocks_is_name_fn : Fn := ⟨1, 1, blocks_is_name_body⟩
noncomputable abbrev F_blocks_is_name : Nat := 17
noncomputable def blocks_is_tag_r1 : Ss := (.cons (.ret (.and_ (.chain .le .le (.int 1) (.idx (.loc 0) (.int 0)) (.cst (.int 999999))) (.cons (.cmp .lt (.idx (.loc 0) (.int 2)) (.cst (.int 997))) .nil))) .nil)
noncomputable def blocks_is_tag_body : Ss := (.cons (.ite (.or_ (.not_ (.isin (.loc 0) [.tuple])) (.cons (.cmp .ne (.bcall .len (.cons (.loc 0) .nil)) (.int 3)) (.cons (.not_ (.bcall .all (.cons (.lc (.call 4 (.cons (.loc 1) .nil)) (.nm 1) (.seq (.loc 0)) .none [1]) .nil))) .nil))) (.cons (.ret (.bl false)) .nil) .nil) blocks_is_tag_r1)
noncomputable def blocks_is_tag_fn : Fn := ⟨1, 1, blocks_is_tag_body⟩
noncomputable abbrev F_blocks_is_tag : Nat := 18
noncomputable def blocks_is_row_r1 : Ss := (.cons (.ret (.bcall .all (.cons (.lc (.call 18 (.cons (.loc 3) .nil)) (.nm 3) (.seq (.loc 2)) .none [3]) .nil))) .nil)
noncomputable def blocks_is_row_r2 : Ss := (.cons (.ite (.or_ (.cmp .gt (.bcall .len (.cons (.loc 2) .nil)) (.cst (.int 8))) (.cons (.and_ (.cmp .eq (.bcall .len (.cons (.loc 2) .nil)) (.int 0)) (.cons (.cmp .gt (.loc 1) (.int 1)) .nil)) .nil)) (.cons (.ret (.bl false)) .nil) .nil) blocks_is_row_r1)
noncomputable def blocks_is_row_body : Ss := (.cons (.asg (.tp (.cons (.nm 1) (.cons (.nm 2) .nil))) (.slc (.loc 0) (.some (.int 1)) .none)) (.cons (.ite (.or_ (.not_ (.call 4 (.cons (.loc 1) .nil))) (.cons (.not_ (.chain .le .le (.int 1) (.loc 1) (.cst (.int 9)))) (.cons (.not_ (.isin (.loc 2) [.tuple])) .nil))) (.cons (.ret (.bl false)) .nil) .nil) blocks_is_row_r2))
noncomputable def blocks_is_row_fn : Fn := ⟨1, 3, blocks_is_row_body⟩
noncomputable abbrev F_blocks_is_row : Nat := 19
noncomputable def blocks_is_entry_r1 : Ss := (.cons (.ret (.and_ (.call 4 (.cons (.idx (.loc 0) (.int 1)) .nil)) (.cons (.chain .le .le (.int 1) (.idx (.loc 0) (.int 1)) (.int 2)) (.cons (.call 18 (.cons (.idx (.loc 0) (.int 2)) .nil)) .nil)))) .nil)
noncomputable def blocks_is_entry_body : Ss := (.cons (.ite (.or_ (.not_ (.isin (.loc 0) [.tuple])) (.cons (.cmp .ne (.bcall .len (.cons (.loc 0) .nil)) (.int 3)) (.cons (.not_ (.call 17 (.cons (.idx (.loc 0) (.int 0)) .nil))) .nil))) (.cons (.ret (.bl false)) .nil) .nil) blocks_is_entry_r1)
noncomputable def blocks_is_entry_fn : Fn := ⟨1, 0, blocks_is_entry_body⟩
noncomputable abbrev F_blocks_is_entry : Nat := 20
noncomputable def blocks_is_folder_r1 : Ss := (.cons (.ret (.bcall .all (.cons (.lc (.cmp .lt (.idx (.idx (.loc 0) (.loc 2)) (.int 0)) (.idx (.idx (.loc 0) (.bin .add (.loc 2) (.int 1))) (.int 0))) (.nm 2) (.rng (.bin .sub (.bcall .len (.cons (.loc 0) .nil)) (.int 1))) .none [2]) .nil))) .nil)
noncomputable def blocks_is_folder_r2 : Ss := (.cons (.ite (.not_ (.bcall .all (.cons (.lc (.call 20 (.cons (.loc 1) .nil)) (.nm 1) (.seq (.loc 0)) .none [1]) .nil))) (.cons (.ret (.bl false)) .nil) .nil) blocks_is_folder_r1)
noncomputable def blocks_is_folder_body : Ss := (.cons (.ite (.or_ (.not_ (.isin (.loc 0) [.tuple])) (.cons (.cmp .gt (.bcall .len (.cons (.loc 0) .nil)) (.cst (.int 16))) .nil)) (.cons (.ret (.bl false)) .nil) .nil) blocks_is_folder_r2)
noncomputable def blocks_is_folder_fn : Fn := ⟨1, 2, blocks_is_folder_body⟩
noncomputable abbrev F_blocks_is_folder : Nat := 21
noncomputable def blocks_is_block_r1 : Ss := (.cons (.ret (.and_ (.cmp .eq (.idx (.loc 0) (.int 0)) (.int 2)) (.cons (.call 21 (.cons (.idx (.loc 0) (.int 1)) .nil)) .nil))) .nil)
noncomputable def blocks_is_block_r2 : Ss := (.cons (.ite (.cmp .eq (.idx (.loc 0) (.int 0)) (.int 0)) (.cons (.ret (.and_ (.call 2 (.cons (.idx (.loc 0) (.int 1)) (.cons (.cst (.int 8)) .nil))) (.cons (.cmp .ne (.idx (.loc 0) (.int 1)) (.str [])) .nil))) .nil) .nil) blocks_is_block_r1)
noncomputable def blocks_is_block_r3 : Ss := (.cons (.ite (.cmp .ne (.bcall .len (.cons (.loc 0) .nil)) (.int 2)) (.cons (.ret (.bl false)) .nil) .nil) blocks_is_block_r2)
noncomputable def blocks_is_block_r4 : Ss := (.cons (.ite (.cmp .eq (.idx (.loc 0) (.int 0)) (.int 1)) (.cons (.ret (.and_ (.cmp .eq (.bcall .len (.cons (.loc 0) .nil)) (.int 3)) (.cons (.call 19 (.cons (.loc 0) .nil)) .nil))) .nil) .nil) blocks_is_block_r3)
noncomputable def blocks_is_block_body : Ss := (.cons (.ite (.or_ (.not_ (.isin (.loc 0) [.tuple])) (.cons (.cmp .lt (.bcall .len (.cons (.loc 0) .nil)) (.int 2)) (.cons (.not_ (.call 4 (.cons (.idx (.loc 0) (.int 0)) .nil))) .nil))) (.cons (.ret (.bl false)) .nil) .nil) blocks_is_block_r4)
noncomputable def blocks_is_block_fn : Fn := ⟨1, 0, blocks_is_block_body⟩
noncomputable abbrev F_blocks_is_block : Nat := 22
noncomputable def blocks_told_of_f1 : Ss := (.cons (.ex (.bmeth .extend (.loc 1) (.cons (.bin .add (.call 3 (.cons (.loc 2) .nil)) (.lst (.cons (.loc 3) (.cons (.idx (.loc 4) (.int 2)) .nil)))) .nil))) .nil)
noncomputable def blocks_told_of_r2 : Ss := (.cons (.ret (.loc 1)) .nil)
noncomputable def blocks_told_of_r3 : Ss := (.cons (.asg (.nm 1) (.lst .nil)) (.cons (.for_ (.tp (.cons (.nm 2) (.cons (.nm 3) (.cons (.nm 4) .nil)))) (.seq (.idx (.loc 0) (.int 1))) blocks_told_of_f1) blocks_told_of_r2))
noncomputable def blocks_told_of_r4 : Ss := (.cons (.ite (.cmp .eq (.idx (.loc 0) (.int 0)) (.int 1)) (.cons (.ret (.bin .add (.lst (.cons (.idx (.loc 0) (.int 1)) .nil)) (.lc (.idx (.loc 4) (.int 2)) (.nm 4) (.seq (.idx (.loc 0) (.int 2))) .none [4]))) .nil) .nil) blocks_told_of_r3)
noncomputable def blocks_told_of_body : Ss := (.cons (.ite (.cmp .eq (.idx (.loc 0) (.int 0)) (.int 0)) (.cons (.ret (.call 3 (.cons (.idx (.loc 0) (.int 1)) .nil))) .nil) .nil) blocks_told_of_r4)
noncomputable def blocks_told_of_fn : Fn := ⟨1, 4, blocks_told_of_body⟩
noncomputable def blocks_sum_of_f1 : Ss := (.cons (.asg (.nm 1) (.bin .mod (.bin .add (.bin .add (.bin .mul (.cst (.int 31)) (.loc 1)) (.loc 2)) (.int 1)) (.cst (.int 997)))) .nil)
noncomputable def blocks_sum_of_r2 : Ss := (.cons (.ret (.loc 1)) .nil)
noncomputable def blocks_sum_of_body : Ss := (.cons (.asg (.nm 1) (.bin .add (.idx (.loc 0) (.int 0)) (.int 1))) (.cons (.for_ (.nm 2) (.seq (.call 23 (.cons (.loc 0) .nil))) blocks_sum_of_f1) blocks_sum_of_r2))
noncomputable def blocks_sum_of_fn : Fn := ⟨1, 2, blocks_sum_of_body⟩
noncomputable def blocks_size_of_body : Ss := (.cons (.ret (.bcall .len (.cons (.call 7 (.cons (.loc 0) .nil)) .nil))) .nil)
noncomputable def blocks_size_of_fn : Fn := ⟨1, 0, blocks_size_of_body⟩
noncomputable def blocks_tags_in_r1 : Ss := (.cons (.ret (.lc (.idx (.loc 1) (.int 2)) (.nm 1) (.seq (.idx (.loc 0) (.int 1))) .none [1])) .nil)
noncomputable def blocks_tags_in_r2 : Ss := (.cons (.ite (.cmp .eq (.idx (.loc 0) (.int 0)) (.int 1)) (.cons (.ret (.bcall .list (.cons (.idx (.loc 0) (.int 2)) .nil))) .nil) .nil) blocks_tags_in_r1)
noncomputable def blocks_tags_in_body : Ss := (.cons (.ite (.cmp .eq (.idx (.loc 0) (.int 0)) (.int 0)) (.cons (.ret (.lst .nil)) .nil) .nil) blocks_tags_in_r2)
noncomputable def blocks_tags_in_fn : Fn := ⟨1, 1, blocks_tags_in_body⟩
noncomputable def fractions_common_w1 : Ss := (.cons (.par 0 1 (.loc 1) (.bin .mod (.loc 0) (.loc 1))) .nil)
noncomputable def fractions_common_r2 : Ss := (.cons (.ret (.loc 0)) .nil)
noncomputable def fractions_common_body : Ss := (.cons (.whl (.cmp .ne (.loc 1) (.int 0)) fractions_common_w1) fractions_common_r2)
noncomputable def fractions_common_fn : Fn := ⟨2, 0, fractions_common_body⟩
noncomputable def fractions_fraction_body : Ss := (.cons (.asg (.nm 2) (.call 105 (.cons (.bcall .abs (.cons (.loc 0) .nil)) (.cons (.loc 1) .nil)))) (.cons (.ret (.tup (.cons (.bin .fdiv (.loc 0) (.loc 2)) (.cons (.bin .fdiv (.loc 1) (.loc 2)) .nil)))) .nil))
noncomputable def fractions_fraction_fn : Fn := ⟨2, 1, fractions_fraction_body⟩
noncomputable def fractions_summed_f1 : Ss := (.cons (.asg (.nm 1) (.call 106 (.cons (.bin .add (.bin .mul (.idx (.loc 1) (.int 0)) (.loc 3)) (.bin .mul (.loc 2) (.idx (.loc 1) (.int 1)))) (.cons (.bin .mul (.idx (.loc 1) (.int 1)) (.loc 3)) .nil)))) .nil)
noncomputable def fractions_summed_r2 : Ss := (.cons (.ret (.loc 1)) .nil)
noncomputable def fractions_summed_body : Ss := (.cons (.asg (.nm 1) (.tup (.cons (.int 0) (.cons (.int 1) .nil)))) (.cons (.for_ (.tp (.cons (.nm 2) (.cons (.nm 3) .nil))) (.seq (.loc 0)) fractions_summed_f1) fractions_summed_r2))
noncomputable def fractions_summed_fn : Fn := ⟨1, 3, fractions_summed_body⟩
noncomputable def fractions_is_above_body : Ss := (.cons (.ret (.cmp .gt (.bin .mul (.idx (.loc 0) (.int 0)) (.idx (.loc 1) (.int 1))) (.bin .mul (.idx (.loc 1) (.int 0)) (.idx (.loc 0) (.int 1))))) .nil)
noncomputable def fractions_is_above_fn : Fn := ⟨2, 0, fractions_is_above_body⟩
noncomputable def l_signs_body : Ss := (.cons (.asg (.nm 0) (.str [32, 33, 34, 35, 36, 38, 39, 40, 41, 42, 43, 44, 45, 46, 47, 48, 49, 50, 51, 52, 53, 54, 55, 56, 57, 58, 59, 60, 61, 62, 63, 64, 65, 66, 67, 68, 69, 70, 71, 72, 73, 74, 75, 76, 77, 78, 79, 80, 81, 82, 83, 84, 85, 86, 87, 88, 89, 90, 91, 92, 93, 94, 95, 96])) (.cons (.ret (.bin .add (.loc 0) (.str [97, 98, 99, 100, 101, 102, 103, 104, 105, 106, 107, 108, 109, 110, 111, 112, 113, 114, 115, 116, 117, 118, 119, 120, 121, 122, 123, 124, 125, 126]))) .nil))
noncomputable def l_signs_fn : Fn := ⟨0, 1, l_signs_body⟩
noncomputable abbrev F_l_signs : Nat := 1000
noncomputable def l_cell_at_r1 : Ss := (.cons (.ret (.int 0)) .nil)
noncomputable def l_cell_at_body : Ss := (.cons (.ite (.cmp .lt (.loc 1) (.bcall .len (.cons (.loc 0) .nil))) (.cons (.ret (.idx (.loc 0) (.loc 1))) .nil) .nil) l_cell_at_r1)
noncomputable def l_cell_at_fn : Fn := ⟨2, 0, l_cell_at_body⟩
noncomputable def l_numbers_f1 : Ss := (.cons (.ex (.bmeth .append (.loc 2) (.cons (.bin .mod (.loc 3) (.int 5040)) .nil))) (.cons (.asg (.nm 3) (.bin .fdiv (.loc 3) (.int 5040))) .nil))
noncomputable def l_numbers_r2 : Ss := (.cons (.ret (.loc 2)) .nil)
noncomputable def l_numbers_f3 : Ss := (.cons (.asg (.nm 3) (.bin .mod (.bin .mul (.bin .add (.bin .add (.loc 3) (.loc 4)) (.int 1)) (.int 48271)) (.int 2147483647))) (.cons (.ex (.bmeth .append (.loc 2) (.cons (.bin .mod (.bin .mul (.loc 3) (.int 69621)) (.int 2147483629)) .nil))) .nil))
noncomputable def l_numbers_r4 : Ss := (.cons (.ret (.slc (.loc 2) (.some (.int 1)) .none)) .nil)
noncomputable def l_numbers_r5 : Ss := (.cons (.asg (.nm 3) (.bin .mod (.loc 0) (.int 2147483647))) (.cons (.for_ (.nm 4) (.rng (.bin .add (.loc 1) (.int 1))) l_numbers_f3) l_numbers_r4))
noncomputable def l_numbers_body : Ss := (.cons (.asg (.nm 2) (.lst .nil)) (.cons (.asg (.nm 3) (.bin .sub (.loc 0) (.bin .pow (.int 10) (.int 18)))) (.cons (.ite (.cmp .ge (.loc 3) (.int 0)) (.cons (.for_ (.nm 4) (.rng (.loc 1)) l_numbers_f1) l_numbers_r2) .nil) l_numbers_r5)))
noncomputable def l_numbers_fn : Fn := ⟨2, 3, l_numbers_body⟩
noncomputable abbrev F_l_numbers : Nat := 1002
noncomputable def l_whole_body : Ss := (.cons (.ret (.and_ (.isin (.loc 0) [.int]) (.cons (.not_ (.isin (.loc 0) [.bool])) .nil))) .nil)
noncomputable def l_whole_fn : Fn := ⟨1, 0, l_whole_body⟩
noncomputable def l_thing_f1 : Ss := (.cons (.asg (.tp (.cons (.nm 9) (.cons (.nm 1) .nil))) (.call 1004 (.cons (.loc 0) (.cons (.loc 1) (.cons (.bin .sub (.loc 2) (.int 1)) .nil))))) (.cons (.ex (.bmeth .append (.loc 7) (.cons (.loc 9) .nil))) .nil))
noncomputable def l_thing_r2 : Ss := (.cons (.ret (.tup (.cons (.bcall .tuple (.cons (.loc 7) .nil)) (.cons (.loc 1) .nil)))) .nil)
noncomputable def l_thing_r3 : Ss := (.cons (.asg (.nm 7) (.lst .nil)) (.cons (.asg (.nm 1) (.bin .add (.loc 1) (.int 1))) (.cons (.for_ (.nm 8) (.rng (.bin .mod (.loc 3) (.int 4))) l_thing_f1) l_thing_r2)))
noncomputable def l_thing_r4 : Ss := (.cons (.ite (.cmp .eq (.bin .mod (.loc 3) (.int 31)) (.int 7)) (.cons (.ret (.tup (.cons (.bcall .tuple (.cons (.lc (.bin .mod (.bin .mul (.loc 8) (.loc 3)) (.bin .pow (.int 10) (.int 9))) (.nm 8) (.rng (.int 100)) .none [8]) .nil)) (.cons (.bin .add (.loc 1) (.int 1)) .nil)))) .nil) .nil) l_thing_r3)
noncomputable def l_thing_r5 : Ss := (.cons (.ite (.cmp .eq (.loc 4) (.int 1)) (.cons (.asg (.nm 5) (.idx (.lst (.cons (.bin .mod (.bin .fdiv (.loc 3) (.int 4)) (.int 12)) (.cons (.int 400) .nil))) (.bcall .int (.cons (.cmp .eq (.bin .mod (.loc 3) (.int 29)) (.int 5)) .nil)))) (.cons (.asg (.nm 6) (.lc (.idx (.call 1000 .nil) (.bin .mod (.bin .add (.bin .fdiv (.loc 3) (.int 7)) (.bin .mul (.loc 8) (.bin .add (.int 1) (.bin .mod (.bin .fdiv (.loc 3) (.int 3)) (.int 93))))) (.int 94))) (.nm 8) (.rng (.loc 5)) .none [8])) (.cons (.ret (.tup (.cons (.bmeth .join (.str []) (.cons (.loc 6) .nil)) (.cons (.bin .add (.loc 1) (.int 1)) .nil)))) .nil))) .nil) l_thing_r4)
noncomputable def l_thing_r6 : Ss := (.cons (.asg (.nm 3) (.bin .fdiv (.loc 3) (.int 3))) (.cons (.ite (.cmp .eq (.loc 4) (.int 0)) (.cons (.ret (.tup (.cons (.idx (.lst (.cons (.bin .mod (.loc 3) (.int 10)) (.cons (.bin .mod (.bin .mul (.loc 3) (.int 7919)) (.bin .pow (.int 10) (.int 9))) (.cons (.int 999999999) .nil)))) (.bin .mod (.loc 3) (.int 3))) (.cons (.bin .add (.loc 1) (.int 1)) .nil)))) .nil) .nil) l_thing_r5))
noncomputable def l_thing_body : Ss := (.cons (.asg (.nm 3) (.idx (.loc 0) (.bin .mod (.loc 1) (.bcall .len (.cons (.loc 0) .nil))))) (.cons (.asg (.nm 4) (.bin .mod (.loc 3) (.int 3))) (.cons (.ite (.or_ (.cmp .lt (.loc 2) (.int 2)) (.cons (.cmp .ge (.bin .add (.loc 1) (.int 1)) (.bcall .len (.cons (.loc 0) .nil))) .nil)) (.cons (.asg (.nm 4) (.bin .mod (.loc 3) (.int 2))) .nil) .nil) l_thing_r6)))
noncomputable def l_thing_fn : Fn := ⟨3, 7, l_thing_body⟩
noncomputable def l_words_f1 : Ss := (.cons (.asg (.nm 1) (.bin .add (.loc 1) (.call 1005 (.cons (.loc 2) .nil)))) .nil)
noncomputable def l_words_r2 : Ss := (.cons (.ret (.loc 1)) .nil)
noncomputable def l_words_r3 : Ss := (.cons (.ret (.lst (.cons (.int 0) (.cons (.loc 0) .nil)))) .nil)
noncomputable def l_words_r4 : Ss := (.cons (.ite (.isin (.loc 0) [.str]) (.cons (.ret (.bin .add (.lst (.cons (.int 1) (.cons (.bcall .len (.cons (.loc 0) .nil)) .nil))) (.lc (.bmeth .sindex (.call 1000 .nil) (.cons (.loc 3) .nil)) (.nm 3) (.seq (.loc 0)) .none [3]))) .nil) .nil) l_words_r3)
noncomputable def l_words_body : Ss := (.cons (.ite (.isin (.loc 0) [.tuple]) (.cons (.asg (.nm 1) (.lst (.cons (.int 2) (.cons (.bcall .len (.cons (.loc 0) .nil)) .nil)))) (.cons (.for_ (.nm 2) (.seq (.loc 0)) l_words_f1) l_words_r2)) .nil) l_words_r4)
noncomputable def l_words_fn : Fn := ⟨1, 3, l_words_body⟩
noncomputable def l_same_r1 : Ss := (.cons (.ret (.bcall .all (.cons (.lc (.call 1006 (.cons (.loc 2) (.cons (.loc 3) .nil))) (.tp (.cons (.nm 2) (.cons (.nm 3) .nil))) (.zip (.loc 0) (.loc 1)) .none [2, 3]) .nil))) .nil)
noncomputable def l_same_r2 : Ss := (.cons (.ret (.and_ (.call 1003 (.cons (.loc 0) .nil)) (.cons (.cmp .eq (.loc 0) (.loc 1)) .nil))) .nil)
noncomputable def l_same_r3 : Ss := (.cons (.ite (.isin (.loc 1) [.str]) (.cons (.ret (.and_ (.isin (.loc 0) [.str]) (.cons (.cmp .eq (.loc 0) (.loc 1)) .nil))) .nil) .nil) l_same_r2)
noncomputable def l_same_body : Ss := (.cons (.ite (.isin (.loc 1) [.tuple]) (.cons (.ite (.or_ (.not_ (.isin (.loc 0) [.tuple])) (.cons (.cmp .ne (.bcall .len (.cons (.loc 0) .nil)) (.bcall .len (.cons (.loc 1) .nil))) .nil)) (.cons (.ret (.bl false)) .nil) .nil) l_same_r1) .nil) l_same_r3)
noncomputable def l_same_fn : Fn := ⟨2, 2, l_same_body⟩
noncomputable def l_copied_r1 : Ss := (.cons (.ret (.loc 0)) .nil)
noncomputable def l_copied_r2 : Ss := (.cons (.ite (.isin (.loc 0) [.tuple]) (.cons (.ret (.bcall .tuple (.cons (.lc (.call 1007 (.cons (.loc 1) .nil)) (.nm 1) (.seq (.loc 0)) .none [1]) .nil))) .nil) .nil) l_copied_r1)
noncomputable def l_copied_body : Ss := (.cons (.ite (.isin (.loc 0) [.list]) (.cons (.ret (.lc (.call 1007 (.cons (.loc 1) .nil)) (.nm 1) (.seq (.loc 0)) .none [1])) .nil) .nil) l_copied_r2)
noncomputable def l_copied_fn : Fn := ⟨1, 1, l_copied_body⟩
noncomputable abbrev F_l_copied : Nat := 1007
noncomputable def l_whole_from_body : Ss := (.cons (.ret (.and_ (.isin (.loc 0) [.int]) (.cons (.not_ (.isin (.loc 0) [.bool])) (.cons (.cmp .le (.loc 1) (.loc 0)) (.cons (.cmp .le (.loc 0) (.loc 2)) .nil))))) .nil)
noncomputable def l_whole_from_fn : Fn := ⟨3, 0, l_whole_from_body⟩
noncomputable abbrev F_l_whole_from : Nat := 1010
noncomputable def l_is_name_r1 : Ss := (.cons (.ret (.cmp .eq (.lc (.loc 1) (.nm 1) (.seq (.loc 0)) (.some (.cmp .nin (.loc 1) (.str [97, 98, 99, 100, 101, 102, 103, 104, 105, 106, 107, 108, 109, 110, 111, 112, 113, 114, 115, 116, 117, 118, 119, 120, 121, 122, 48, 49, 50, 51, 52, 53, 54, 55, 56, 57]))) [1]) (.lst .nil))) .nil)
noncomputable def l_is_name_body : Ss := (.cons (.ite (.or_ (.not_ (.isin (.loc 0) [.str])) (.cons (.cmp .lt (.bcall .len (.cons (.loc 0) .nil)) (.int 1)) (.cons (.cmp .gt (.bcall .len (.cons (.loc 0) .nil)) (.int 8)) .nil))) (.cons (.ret (.bl false)) .nil) .nil) l_is_name_r1)
noncomputable def l_is_name_fn : Fn := ⟨1, 1, l_is_name_body⟩
noncomputable abbrev F_l_is_name : Nat := 1011
noncomputable def l_tag_r1 : Ss := (.cons (.ret (.loc 1)) .nil)
noncomputable def l_tag_r2 : Ss := (.cons (.ite (.cmp .eq (.bin .mod (.loc 0) (.int 7)) (.int 5)) (.cons (.asg (.nm 1) (.tup (.cons (.bin .add (.int 1) (.bin .mod (.loc 0) (.int 9))) (.cons (.bin .mod (.bin .fdiv (.loc 0) (.int 9)) (.int 2)) (.cons (.bin .mod (.bin .fdiv (.loc 0) (.int 18)) (.int 997)) .nil))))) .nil) .nil) l_tag_r1)
noncomputable def l_tag_body : Ss := (.cons (.asg (.nm 1) (.tup (.cons (.bin .add (.int 1) (.bin .mod (.loc 0) (.int 999999))) (.cons (.bin .mod (.bin .mul (.loc 0) (.int 48271)) (.bin .pow (.int 10) (.int 9))) (.cons (.bin .mod (.bin .fdiv (.loc 0) (.int 5)) (.int 997)) .nil))))) (.cons (.ite (.cmp .eq (.bin .mod (.loc 0) (.int 7)) (.int 3)) (.cons (.asg (.nm 1) (.tup (.cons (.int 999999) (.cons (.int 999999999) (.cons (.idx (.lst (.cons (.int 996) (.cons (.int 0) .nil))) (.bin .mod (.bin .fdiv (.loc 0) (.int 7)) (.int 2))) .nil))))) .nil) .nil) l_tag_r2))
noncomputable def l_tag_fn : Fn := ⟨1, 1, l_tag_body⟩
noncomputable abbrev F_l_tag : Nat := 1012
noncomputable def l_name_body : Ss := (.cons (.asg (.nm 1) (.bin .add (.int 1) (.bin .mod (.loc 0) (.int 8)))) (.cons (.asg (.nm 2) (.str [97, 98, 99, 100, 101, 102, 103, 104, 105, 106, 107, 108, 109, 110, 111, 112, 113, 114, 115, 116, 117, 118, 119, 120, 121, 122, 48, 49, 50, 51, 52, 53, 54, 55, 56, 57])) (.cons (.ret (.bmeth .join (.str []) (.cons (.lc (.idx (.loc 2) (.bin .mod (.bin .add (.bin .fdiv (.loc 0) (.int 8)) (.bin .mul (.loc 3) (.bin .mod (.bin .fdiv (.loc 0) (.int 288)) (.int 36)))) (.int 36))) (.nm 3) (.rng (.loc 1)) .none [3]) .nil))) .nil)))
noncomputable def l_name_fn : Fn := ⟨1, 3, l_name_body⟩
noncomputable abbrev F_l_name : Nat := 1013
noncomputable def l_block_f1 : Ss := (.cons (.asg (.ix (.loc 3) (.call 1013 (.cons (.loc 4) .nil))) (.tup (.cons (.bin .add (.int 1) (.bin .mod (.bin .fdiv (.loc 4) (.int 7)) (.int 2))) (.cons (.call 1012 (.cons (.bin .mod (.bin .mul (.loc 4) (.int 31)) (.int 2147483647)) .nil)) .nil)))) .nil)
noncomputable def l_block_r2 : Ss := (.cons (.ret (.tup (.cons (.int 2) (.cons (.bcall .tuple (.cons (.lc (.bin .add (.tup (.cons (.loc 5) .nil)) (.idx (.loc 3) (.loc 5))) (.nm 5) (.seq (.bcall .sorted (.cons (.loc 3) .nil))) .none [5]) .nil)) .nil)))) .nil)
noncomputable def l_block_r3 : Ss := (.cons (.asg (.nm 3) (.dic .nil .nil)) (.cons (.for_ (.nm 4) (.seq (.slc (.loc 0) (.some (.int 2)) (.some (.bin .add (.int 2) (.bin .mod (.idx (.loc 0) (.int 1)) (.int 17)))))) l_block_f1) l_block_r2))
noncomputable def l_block_r4 : Ss := (.cons (.ite (.cmp .eq (.bin .mod (.idx (.loc 0) (.int 0)) (.int 3)) (.int 1)) (.cons (.asg (.nm 1) (.bin .add (.int 1) (.bin .mod (.idx (.loc 0) (.int 1)) (.int 9)))) (.cons (.asg (.nm 2) (.bcall .max (.cons (.bcall .int (.cons (.cmp .gt (.loc 1) (.int 1)) .nil)) (.cons (.bin .mod (.idx (.loc 0) (.int 2)) (.int 9)) .nil)))) (.cons (.ret (.tup (.cons (.int 1) (.cons (.loc 1) (.cons (.bcall .tuple (.cons (.lc (.call 1012 (.cons (.loc 4) .nil)) (.nm 4) (.seq (.slc (.loc 0) (.some (.int 3)) (.some (.bin .add (.int 3) (.loc 2))))) .none [4]) .nil)) .nil))))) .nil))) .nil) l_block_r3)
noncomputable def l_block_body : Ss := (.cons (.ite (.cmp .eq (.bin .mod (.idx (.loc 0) (.int 0)) (.int 3)) (.int 0)) (.cons (.ret (.tup (.cons (.int 0) (.cons (.bmeth .join (.str []) (.cons (.lc (.idx (.call 1000 .nil) (.bin .mod (.loc 4) (.int 94))) (.nm 4) (.seq (.slc (.loc 0) (.some (.int 2)) (.some (.bin .add (.int 3) (.bin .mod (.idx (.loc 0) (.int 1)) (.int 8)))))) .none [4]) .nil)) .nil)))) .nil) .nil) l_block_r4)
noncomputable def l_block_fn : Fn := ⟨1, 5, l_block_body⟩
noncomputable abbrev F_l_block : Nat := 1014
noncomputable def l_told_f1 : Ss := (.cons (.asg (.nm 1) (.bin .add (.bin .add (.loc 1) (.lc (.bmeth .sindex (.call 1000 .nil) (.cons (.loc 5) .nil)) (.nm 5) (.seq (.loc 2)) .none [5])) (.lst (.cons (.loc 3) (.cons (.idx (.loc 4) (.int 2)) .nil))))) .nil)
noncomputable def l_told_r2 : Ss := (.cons (.ret (.loc 1)) .nil)
noncomputable def l_told_r3 : Ss := (.cons (.asg (.nm 1) (.lst .nil)) (.cons (.for_ (.tp (.cons (.nm 2) (.cons (.nm 3) (.cons (.nm 4) .nil)))) (.seq (.idx (.loc 0) (.int 1))) l_told_f1) l_told_r2))
noncomputable def l_told_r4 : Ss := (.cons (.ite (.cmp .eq (.idx (.loc 0) (.int 0)) (.int 1)) (.cons (.ret (.bin .add (.lst (.cons (.idx (.loc 0) (.int 1)) .nil)) (.lc (.idx (.loc 4) (.int 2)) (.nm 4) (.seq (.idx (.loc 0) (.int 2))) .none [4]))) .nil) .nil) l_told_r3)
noncomputable def l_told_body : Ss := (.cons (.ite (.cmp .eq (.idx (.loc 0) (.int 0)) (.int 0)) (.cons (.ret (.lc (.bmeth .sindex (.call 1000 .nil) (.cons (.loc 5) .nil)) (.nm 5) (.seq (.idx (.loc 0) (.int 1))) .none [5])) .nil) .nil) l_told_r4)
noncomputable def l_told_fn : Fn := ⟨1, 5, l_told_body⟩
noncomputable def l_sum_f1 : Ss := (.cons (.asg (.nm 1) (.bin .mod (.bin .add (.bin .add (.bin .mul (.int 31) (.loc 1)) (.loc 2)) (.int 1)) (.int 997))) .nil)
noncomputable def l_sum_r2 : Ss := (.cons (.ret (.loc 1)) .nil)
noncomputable def l_sum_body : Ss := (.cons (.asg (.nm 1) (.bin .add (.int 1) (.idx (.loc 0) (.int 0)))) (.cons (.for_ (.nm 2) (.seq (.call 1015 (.cons (.loc 0) .nil))) l_sum_f1) l_sum_r2))
noncomputable def l_sum_fn : Fn := ⟨1, 2, l_sum_body⟩
noncomputable def l_common_w1 : Ss := (.cons (.par 0 1 (.loc 1) (.bin .mod (.loc 0) (.loc 1))) .nil)
noncomputable def l_common_r2 : Ss := (.cons (.ret (.loc 0)) .nil)
noncomputable def l_common_body : Ss := (.cons (.whl (.cmp .ne (.loc 1) (.int 0)) l_common_w1) l_common_r2)
noncomputable def l_common_fn : Fn := ⟨2, 0, l_common_body⟩
/-- own exceptions stand below StemError, that below ValueError -/
noncomputable def supE (k j : Nat) : Bool := Nat.beq k j || (Nat.beq j 0 || (Nat.beq j 90 || Nat.beq j 91))
noncomputable def gfn (f : Nat) : Option Fn := (bif Nat.ble f 26 then (bif Nat.ble f 9 then (bif Nat.ble f 4 then (bif Nat.ble f 1 then (bif Nat.ble f 0 then (bif Nat.beq f 0 then some signs_number_of_fn else none) else (bif Nat.beq f 1 then some signs_sign_of_fn else none)) else (bif Nat.ble f 2 then (bif Nat.beq f 2 then some signs_is_text_fn else none) else (bif Nat.ble f 3 then (bif Nat.beq f 3 then some signs_numbers_of_fn else none) else (bif Nat.beq f 4 then some things_is_number_fn else none)))) else (bif Nat.ble f 6 then (bif Nat.ble f 5 then (bif Nat.beq f 5 then some things_is_within_fn else none) else (bif Nat.beq f 6 then some things_is_thing_fn else none)) else (bif Nat.ble f 7 then (bif Nat.beq f 7 then some things_words_of_fn else none) else (bif Nat.ble f 8 then (bif Nat.beq f 8 then some things_text_at_fn else none) else (bif Nat.beq f 9 then some things_thing_at_fn else none))))) else (bif Nat.ble f 21 then (bif Nat.ble f 18 then (bif Nat.ble f 17 then (bif Nat.beq f 17 then some blocks_is_name_fn else none) else (bif Nat.beq f 18 then some blocks_is_tag_fn else none)) else (bif Nat.ble f 19 then (bif Nat.beq f 19 then some blocks_is_row_fn else none) else (bif Nat.ble f 20 then (bif Nat.beq f 20 then some blocks_is_entry_fn else none) else (bif Nat.beq f 21 then some blocks_is_folder_fn else none)))) else (bif Nat.ble f 23 then (bif Nat.ble f 22 then (bif Nat.beq f 22 then some blocks_is_block_fn else none) else (bif Nat.beq f 23 then some blocks_told_of_fn else none)) else (bif Nat.ble f 24 then (bif Nat.beq f 24 then some blocks_sum_of_fn else none) else (bif Nat.ble f 25 then (bif Nat.beq f 25 then some blocks_size_of_fn else none) else (bif Nat.beq f 26 then some blocks_tags_in_fn else none)))))) else (bif Nat.ble f 1005 then (bif Nat.ble f 1000 then (bif Nat.ble f 106 then (bif Nat.ble f 105 then (bif Nat.beq f 105 then some fractions_common_fn else none) else (bif Nat.beq f 106 then some fractions_fraction_fn else none)) else (bif Nat.ble f 107 then (bif Nat.beq f 107 then some fractions_summed_fn else none) else (bif Nat.ble f 108 then (bif Nat.beq f 108 then some fractions_is_above_fn else none) else (bif Nat.beq f 1000 then some l_signs_fn else none)))) else (bif Nat.ble f 1002 then (bif Nat.ble f 1001 then (bif Nat.beq f 1001 then some l_cell_at_fn else none) else (bif Nat.beq f 1002 then some l_numbers_fn else none)) else (bif Nat.ble f 1003 then (bif Nat.beq f 1003 then some l_whole_fn else none) else (bif Nat.ble f 1004 then (bif Nat.beq f 1004 then some l_thing_fn else none) else (bif Nat.beq f 1005 then some l_words_fn else none))))) else (bif Nat.ble f 1012 then (bif Nat.ble f 1007 then (bif Nat.ble f 1006 then (bif Nat.beq f 1006 then some l_same_fn else none) else (bif Nat.beq f 1007 then some l_copied_fn else none)) else (bif Nat.ble f 1010 then (bif Nat.beq f 1010 then some l_whole_from_fn else none) else (bif Nat.ble f 1011 then (bif Nat.beq f 1011 then some l_is_name_fn else none) else (bif Nat.beq f 1012 then some l_tag_fn else none)))) else (bif Nat.ble f 1014 then (bif Nat.ble f 1013 then (bif Nat.beq f 1013 then some l_name_fn else none) else (bif Nat.beq f 1014 then some l_block_fn else none)) else (bif Nat.ble f 1015 then (bif Nat.beq f 1015 then some l_told_fn else none) else (bif Nat.ble f 1016 then (bif Nat.beq f 1016 then some l_sum_fn else none) else (bif Nat.beq f 1054 then some l_common_fn else none)))))))
noncomputable def fnames : List Str := ["number", "rows_kept", "writes_done", "writes_left", "own_tag", "words", "named", "times", "within", "depth", "boards", "taken", "by_sum", "draft", "name", "path", "now", "held", "done_yet", "patrons", "rows", "plain_trees", "ground", "dwelling"]
noncomputable def fldName (f : Nat) : Str := fnAt fnames f
theorem fldName_inj : ∀ f g, fldName f = fldName g → f = g := fnAt_inj (by decide +kernel)
noncomputable def fdcE (k f : Nat) : Bool := (bif Nat.beq k 7 then (Nat.beq f 1 || Nat.beq f 2 || Nat.beq f 3) else (bif Nat.beq k 8 then (Nat.beq f 4 || Nat.beq f 5 || Nat.beq f 6 || Nat.beq f 7 || Nat.beq f 8 || Nat.beq f 9) else (bif Nat.beq k 9 then (Nat.beq f 7 || Nat.beq f 8 || Nat.beq f 9 || Nat.beq f 10 || Nat.beq f 11 || Nat.beq f 12 || Nat.beq f 13) else (bif Nat.beq k 15 then (Nat.beq f 10 || Nat.beq f 16 || Nat.beq f 17) else (bif Nat.beq k 19 then (Nat.beq f 18 || Nat.beq f 19 || Nat.beq f 20 || Nat.beq f 21) else (bif Nat.beq k 20 then (Nat.beq f 22 || Nat.beq f 23) else false))))))
noncomputable def xfdE (k : Nat) : Option Nat := (bif Nat.beq k 6 then some 0 else (bif Nat.beq k 11 then some 14 else (bif Nat.beq k 12 then some 14 else (bif Nat.beq k 13 then some 15 else (bif Nat.beq k 14 then some 14 else (bif Nat.beq k 16 then some 14 else (bif Nat.beq k 17 then some 14 else none)))))))
noncomputable def xfsE (k : Nat) : Str := match xfdE k with
  | some f => fldName f
  | none => ""
noncomputable def kd_1 : List (List Nat × U) := [([107, 101, 101, 112, 101, 114], .tup ([[110, 97, 109, 101], [110, 117, 109, 98, 101, 114]].map U.str)), ([115, 116, 101, 109], .tup ([[110, 97, 109, 101], [110, 97, 109, 101]].map U.str)), ([102, 111, 108, 100, 101, 114], .tup ([[110, 97, 109, 101], [112, 97, 116, 104]].map U.str)), ([119, 114, 105, 116, 101], .tup ([[110, 97, 109, 101], [112, 97, 116, 104], [116, 101, 120, 116]].map U.str)), ([115, 112, 108, 105, 99, 101], .tup ([[110, 97, 109, 101], [112, 97, 116, 104], [110, 117, 109, 98, 101, 114], [110, 117, 109, 98, 101, 114], [116, 101, 120, 116]].map U.str)), ([114, 101, 109, 111, 118, 101], .tup ([[110, 97, 109, 101], [112, 97, 116, 104]].map U.str)), ([109, 111, 118, 101], .tup ([[110, 97, 109, 101], [112, 97, 116, 104], [112, 97, 116, 104]].map U.str)), ([99, 111, 112, 121], .tup ([[110, 97, 109, 101], [112, 97, 116, 104], [110, 97, 109, 101], [112, 97, 116, 104]].map U.str)), ([115, 101, 97, 108], .tup ([[110, 97, 109, 101], [110, 97, 109, 101]].map U.str)), ([103, 114, 111, 119], .tup ([[110, 97, 109, 101], [110, 97, 109, 101], [110, 97, 109, 101]].map U.str)), ([98, 97, 99, 107], .tup ([[110, 97, 109, 101]].map U.str)), ([103, 114, 97, 102, 116], .tup ([[110, 97, 109, 101]].map U.str)), ([100, 114, 111, 112], .tup ([[110, 97, 109, 101]].map U.str))]
noncomputable def kdsE (k : Nat) : List (List Nat × U) := (bif Nat.beq k 1 then kd_1 else [])
noncomputable def Pof (L : List Fn) : Pg := ⟨fun f => bif Nat.ble 3000 f then L[f - 3000]? else gfn f, fdcE, supE, xfdE, xfsE, kdsE⟩
end Gp
namespace LK12
open PySem Mp Gp
noncomputable def law_is_tag_r1 : Ss := (.cons (.ret (.and_ (.call 1010 (.cons (.idx (.loc 0) (.int 1)) (.cons (.int 0) (.cons (.int 999999999) .nil)))) (.cons (.call 1010 (.cons (.idx (.loc 0) (.int 2)) (.cons (.int 0) (.cons (.int 996) .nil)))) .nil))) .nil)
noncomputable def law_is_tag_body : Ss := (.cons (.ite (.or_ (.not_ (.isin (.loc 0) [.tuple])) (.cons (.cmp .ne (.bcall .len (.cons (.loc 0) .nil)) (.int 3)) (.cons (.not_ (.call 1010 (.cons (.idx (.loc 0) (.int 0)) (.cons (.int 1) (.cons (.int 999999) .nil))))) .nil))) (.cons (.ret (.bl false)) .nil) .nil) law_is_tag_r1)
noncomputable def law_is_tag_fn : Fn := ⟨1, 0, law_is_tag_body⟩
noncomputable def law_is_entry_r1 : Ss := (.cons (.ret (.and_ (.call 1010 (.cons (.idx (.loc 0) (.int 1)) (.cons (.int 1) (.cons (.int 2) .nil)))) (.cons (.call 3000 (.cons (.idx (.loc 0) (.int 2)) .nil)) .nil))) .nil)
noncomputable def law_is_entry_body : Ss := (.cons (.ite (.or_ (.not_ (.isin (.loc 0) [.tuple])) (.cons (.cmp .ne (.bcall .len (.cons (.loc 0) .nil)) (.int 3)) (.cons (.not_ (.call 1011 (.cons (.idx (.loc 0) (.int 0)) .nil))) .nil))) (.cons (.ret (.bl false)) .nil) .nil) law_is_entry_r1)
noncomputable def law_is_entry_fn : Fn := ⟨1, 0, law_is_entry_body⟩
noncomputable def law_is_block_r1 : Ss := (.cons (.ret (.cmp .eq (.lc (.loc 2) (.nm 2) (.seq (.idx (.loc 0) (.int 1))) (.some (.cmp .nin (.loc 2) (.call 1000 .nil))) [2]) (.lst .nil))) .nil)
noncomputable def law_is_block_r2 : Ss := (.cons (.ret (.and_ (.chain .le .le (.bcall .int (.cons (.cmp .gt (.idx (.loc 0) (.int 1)) (.int 1)) .nil)) (.bcall .len (.cons (.idx (.loc 0) (.int 2)) .nil)) (.int 8)) (.cons (.cmp .eq (.lc (.loc 3) (.nm 3) (.seq (.idx (.loc 0) (.int 2))) (.some (.not_ (.call 3000 (.cons (.loc 3) .nil)))) [3]) (.lst .nil)) .nil))) .nil)
noncomputable def law_is_block_r3 : Ss := (.cons (.asg (.nm 1) (.lc (.idx (.loc 4) (.int 0)) (.nm 4) (.seq (.idx (.loc 0) (.int 1))) .none [4])) (.cons (.ret (.cmp .eq (.bcall .sset (.cons (.loc 1) .nil)) (.loc 1))) .nil))
noncomputable def law_is_block_r4 : Ss := (.cons (.ite (.cmp .ne (.lc (.loc 4) (.nm 4) (.seq (.idx (.loc 0) (.int 1))) (.some (.not_ (.call 3001 (.cons (.loc 4) .nil)))) [4]) (.lst .nil)) (.cons (.ret (.bl false)) .nil) .nil) law_is_block_r3)
noncomputable def law_is_block_r5 : Ss := (.cons (.ite (.or_ (.cmp .ne (.bcall .len (.cons (.loc 0) .nil)) (.int 2)) (.cons (.not_ (.isin (.idx (.loc 0) (.int 1)) [.tuple])) (.cons (.cmp .gt (.bcall .len (.cons (.idx (.loc 0) (.int 1)) .nil)) (.int 16)) .nil))) (.cons (.ret (.bl false)) .nil) .nil) law_is_block_r4)
noncomputable def law_is_block_r6 : Ss := (.cons (.ite (.cmp .eq (.idx (.loc 0) (.int 0)) (.int 1)) (.cons (.ite (.or_ (.cmp .ne (.bcall .len (.cons (.loc 0) .nil)) (.int 3)) (.cons (.not_ (.call 1010 (.cons (.idx (.loc 0) (.int 1)) (.cons (.int 1) (.cons (.int 9) .nil))))) (.cons (.not_ (.isin (.idx (.loc 0) (.int 2)) [.tuple])) .nil))) (.cons (.ret (.bl false)) .nil) .nil) law_is_block_r2) .nil) law_is_block_r5)
noncomputable def law_is_block_r7 : Ss := (.cons (.ite (.cmp .eq (.idx (.loc 0) (.int 0)) (.int 0)) (.cons (.ite (.or_ (.cmp .ne (.bcall .len (.cons (.loc 0) .nil)) (.int 2)) (.cons (.not_ (.isin (.idx (.loc 0) (.int 1)) [.str])) (.cons (.not_ (.chain .le .le (.int 1) (.bcall .len (.cons (.idx (.loc 0) (.int 1)) .nil)) (.int 8))) .nil))) (.cons (.ret (.bl false)) .nil) .nil) law_is_block_r1) .nil) law_is_block_r6)
noncomputable def law_is_block_body : Ss := (.cons (.ite (.or_ (.not_ (.isin (.loc 0) [.tuple])) (.cons (.cmp .lt (.bcall .len (.cons (.loc 0) .nil)) (.int 2)) (.cons (.not_ (.call 1010 (.cons (.idx (.loc 0) (.int 0)) (.cons (.int 0) (.cons (.int 2) .nil))))) .nil))) (.cons (.ret (.bl false)) .nil) .nil) law_is_block_r7)
noncomputable def law_is_block_fn : Fn := ⟨1, 4, law_is_block_body⟩
noncomputable def law_other_body : Ss := (.cons (.asg (.nm 2) (.lst (.cons (.int 0) (.cons (.int 1) (.cons (.int 2) (.cons (.int 3) (.cons (.int 9) (.cons (.int 10) (.cons (.neg (.int 1)) (.cons (.int 996) (.cons (.int 997) (.cons (.int 999999) (.cons (.int 1000000) (.cons (.int 999999999) (.cons (.bin .pow (.int 10) (.int 9)) (.cons (.bl true) (.cons (.bl false) (.cons .non .nil)))))))))))))))))) (.cons (.asg (.nm 2) (.bin .add (.loc 2) (.lst (.cons (.str []) (.cons (.str [97]) (.cons (.str [122, 122, 57]) (.cons (.str [65]) (.cons (.str [97, 32, 98]) (.cons (.str [97, 10]) (.cons (.str [126]) (.cons (.str [49, 50, 51, 52, 53, 54, 55, 56, 57]) (.cons (.tup .nil) (.cons (.tup (.cons (.int 1) .nil)) (.cons (.tup (.cons (.int 1) (.cons (.int 2) (.cons (.int 3) .nil)))) (.cons (.tup (.cons (.str [97]) (.cons (.int 1) (.cons (.tup (.cons (.int 1) (.cons (.int 2) (.cons (.int 3) .nil)))) .nil)))) .nil))))))))))))))) (.cons (.asg (.nm 2) (.bin .add (.loc 2) (.lst (.cons (.lst .nil) (.cons (.lst (.cons (.loc 1) .nil)) (.cons (.tup (.cons (.loc 1) .nil)) .nil)))))) (.cons (.ret (.idx (.loc 2) (.bin .mod (.idx (.loc 0) (.int 10)) (.bcall .len (.cons (.loc 2) .nil))))) .nil))))
noncomputable def law_other_fn : Fn := ⟨2, 1, law_other_body⟩
noncomputable def law_bent_r1 : Ss := (.cons (.ret (.bin .add (.bin .add (.slc (.loc 0) .none (.some (.loc 3))) (.tup (.cons (.call 3004 (.cons (.idx (.loc 0) (.loc 3)) (.cons (.loc 1) (.cons (.bin .add (.loc 2) (.int 1)) .nil)))) .nil))) (.slc (.loc 0) (.some (.bin .add (.loc 3) (.int 1))) .none))) .nil)
noncomputable def law_bent_r2 : Ss := (.cons (.ite (.and_ (.cmp .eq (.loc 4) (.int 4)) (.cons (.cmp .gt (.loc 2) (.int 0)) .nil)) (.cons (.ret (.call 3003 (.cons (.loc 1) (.cons (.loc 0) .nil)))) .nil) .nil) law_bent_r1)
noncomputable def law_bent_r3 : Ss := (.cons (.ite (.cmp .eq (.loc 4) (.int 3)) (.cons (.ret (.bin .add (.slc (.loc 0) (.some (.loc 3)) .none) (.slc (.loc 0) .none (.some (.loc 3))))) .nil) .nil) law_bent_r2)
noncomputable def law_bent_r4 : Ss := (.cons (.ite (.cmp .eq (.loc 4) (.int 2)) (.cons (.ret (.bin .add (.bin .add (.slc (.loc 0) .none (.some (.loc 3))) (.tup (.cons (.idx (.loc 0) (.loc 3)) .nil))) (.slc (.loc 0) (.some (.loc 3)) .none))) .nil) .nil) law_bent_r3)
noncomputable def law_bent_r5 : Ss := (.cons (.ite (.cmp .eq (.loc 4) (.int 1)) (.cons (.ret (.bin .add (.slc (.loc 0) .none (.some (.loc 3))) (.slc (.loc 0) (.some (.bin .add (.loc 3) (.int 1))) .none))) .nil) .nil) law_bent_r4)
noncomputable def law_bent_r6 : Ss := (.cons (.asg (.nm 3) (.bin .mod (.idx (.loc 1) (.loc 2)) (.bcall .len (.cons (.loc 0) .nil)))) (.cons (.asg (.nm 4) (.bin .mod (.idx (.loc 1) (.bin .add (.int 5) (.loc 2))) (.int 9))) (.cons (.ite (.cmp .eq (.loc 4) (.int 0)) (.cons (.ret (.bin .add (.bin .add (.slc (.loc 0) .none (.some (.loc 3))) (.tup (.cons (.call 3003 (.cons (.loc 1) (.cons (.idx (.loc 0) (.loc 3)) .nil))) .nil))) (.slc (.loc 0) (.some (.loc 3)) .none))) .nil) .nil) law_bent_r5)))
noncomputable def law_bent_body : Ss := (.cons (.ite (.or_ (.not_ (.isin (.loc 0) [.tuple])) (.cons (.cmp .eq (.loc 0) (.tup .nil)) .nil)) (.cons (.ret (.call 3003 (.cons (.loc 1) (.cons (.loc 0) .nil)))) .nil) .nil) law_bent_r6)
noncomputable def law_bent_fn : Fn := ⟨3, 2, law_bent_body⟩
noncomputable def law_r1 : Ss := (.cons (.ite (.isB (.call 22 (.cons (.loc 3) .nil)) true true) (.cons (.ret (.bl false)) .nil) .nil) .nil)
noncomputable def law_r2 : Ss := (.cons (.asg (.nm 5) (.call 1007 (.cons (.loc 4) .nil))) (.cons (.asg (.nm 6) (.call 22 (.cons (.loc 4) .nil))) (.cons (.ite (.or_ (.not_ (.isin (.loc 6) [.bool])) (.cons (.cmp .ne (.loc 6) (.call 3002 (.cons (.loc 5) .nil))) (.cons (.cmp .ne (.loc 4) (.loc 5)) .nil))) (.cons (.ret (.bl false)) .nil) .nil) law_r1)))
noncomputable def law_f3 : Ss := (.cons (.asg (.nm 2) (.call 1002 (.cons (.loc 1) (.cons (.int 36) .nil)))) (.cons (.asg (.nm 3) (.call 1014 (.cons (.slc (.loc 2) (.some (.int 12)) .none) .nil))) (.cons (.asg (.nm 4) (.loc 3)) (.cons (.ite (.cmp .gt (.bin .mod (.idx (.loc 2) (.int 11)) (.int 4)) (.int 0)) (.cons (.asg (.nm 4) (.call 3004 (.cons (.loc 3) (.cons (.loc 2) (.cons (.int 0) .nil))))) .nil) .nil) law_r2))))
noncomputable def law_r4 : Ss := (.cons (.ret (.bl true)) .nil)
noncomputable def law_body : Ss := (.cons (.for_ (.nm 1) (.seq (.bin .add (.lst (.cons (.int 0) .nil)) (.slc (.loc 0) .none (.some (.int 12))))) law_f3) law_r4)
noncomputable def law_fn : Fn := ⟨1, 6, law_body⟩
noncomputable def own : List Fn := [law_is_tag_fn, law_is_entry_fn, law_is_block_fn, law_other_fn, law_bent_fn, law_fn]
noncomputable def P : Pg := Pof own
noncomputable def T : Tb := ⟨[(2, "is_text"), (4, "is_number"), (17, "is_name"), (18, "is_tag"), (19, "is_row"), (20, "is_entry"), (21, "is_folder"), (22, "is_block"), (1002, "_law_numbers"), (1000, "_law_signs"), (1012, "_law_tag"), (1013, "_law_name"), (1014, "_law_block"), (1010, "_law_whole_from"), (1011, "_law_is_name"), (3000, "_law_is_tag"), (3001, "_law_is_entry"), (3002, "_law_is_block"), (3003, "_law_other"), (3004, "_law_bent"), (1007, "_law_copied"), (3005, "law")], [], [("BY", .int 997), ("GREATEST", .int 999999999), ("MOST_CELLS", .int 999999), ("MOST_ENTRIES", .int 16), ("MOST_LEVEL", .int 9), ("MOST_NAMED", .int 8), ("MOST_PIECE", .int 8), ("MOST_TAGS", .int 8), ("NAMED", k_blocks_NAMED), ("SIGNS", k_signs_SIGNS)], [], [], [], [], [], []⟩
noncomputable def xsB (k : Nat) : Bool := (T.xnm.lookup k).isSome || (T.xn1.lookup k).isSome
noncomputable def cx (w : World) (ca : Nat → Addr) : Cx0 := ⟨P, ⟨ca, fldName, fldName_inj, fdcE, w⟩, none, xsB⟩
section
open PySem.Spec PyProof.Rows L2
noncomputable def topS (i : Nat) : Stmt := PySem.Challenge.pw_stemshelf_k12_what_is_a_block.main.body.getD i (.Pass ⟨0, 0, 0, 0⟩)
noncomputable abbrev s_signs_is_text : Stmt := topS 2
theorem sc_signs_is_text : FnScope ["thing", "most", "sign"] ["thing", "most"] (defScope s_signs_is_text) := ⟨rfl, rfl, rfl, by decide +kernel, rfl, by decide +kernel, by decide +kernel⟩
theorem ck_signs_is_text : ckSs (T.ck ["thing", "most", "sign"] (defScope s_signs_is_text)) signs_is_text_body (defBody s_signs_is_text) = true := by decide +kernel
noncomputable abbrev s_things_is_number : Stmt := topS 5
theorem sc_things_is_number : FnScope ["thing"] ["thing"] (defScope s_things_is_number) := ⟨rfl, rfl, rfl, by decide +kernel, rfl, by decide +kernel, by decide +kernel⟩
theorem ck_things_is_number : ckSs (T.ck ["thing"] (defScope s_things_is_number)) things_is_number_body (defBody s_things_is_number) = true := by decide +kernel
noncomputable abbrev s_blocks_is_name : Stmt := topS 15
theorem sc_blocks_is_name : FnScope ["thing", "sign"] ["thing"] (defScope s_blocks_is_name) := ⟨rfl, rfl, rfl, by decide +kernel, rfl, by decide +kernel, by decide +kernel⟩
theorem ck_blocks_is_name : ckSs (T.ck ["thing", "sign"] (defScope s_blocks_is_name)) blocks_is_name_body (defBody s_blocks_is_name) = true := by decide +kernel
noncomputable abbrev s_blocks_is_tag : Stmt := topS 16
theorem sc_blocks_is_tag : FnScope ["thing", "part"] ["thing"] (defScope s_blocks_is_tag) := ⟨rfl, rfl, rfl, by decide +kernel, rfl, by decide +kernel, by decide +kernel⟩
theorem ck_blocks_is_tag : ckSs (T.ck ["thing", "part"] (defScope s_blocks_is_tag)) blocks_is_tag_body (defBody s_blocks_is_tag) = true := by decide +kernel
noncomputable abbrev s_blocks_is_row : Stmt := topS 17
theorem sc_blocks_is_row : FnScope ["thing", "level", "tags", "tag"] ["thing"] (defScope s_blocks_is_row) := ⟨rfl, rfl, rfl, by decide +kernel, rfl, by decide +kernel, by decide +kernel⟩
theorem ck_blocks_is_row : ckSs (T.ck ["thing", "level", "tags", "tag"] (defScope s_blocks_is_row)) blocks_is_row_body (defBody s_blocks_is_row) = true := by decide +kernel
noncomputable abbrev s_blocks_is_entry : Stmt := topS 18
theorem sc_blocks_is_entry : FnScope ["thing"] ["thing"] (defScope s_blocks_is_entry) := ⟨rfl, rfl, rfl, by decide +kernel, rfl, by decide +kernel, by decide +kernel⟩
theorem ck_blocks_is_entry : ckSs (T.ck ["thing"] (defScope s_blocks_is_entry)) blocks_is_entry_body (defBody s_blocks_is_entry) = true := by decide +kernel
noncomputable abbrev s_blocks_is_folder : Stmt := topS 19
theorem sc_blocks_is_folder : FnScope ["entries", "entry", "k"] ["entries"] (defScope s_blocks_is_folder) := ⟨rfl, rfl, rfl, by decide +kernel, rfl, by decide +kernel, by decide +kernel⟩
theorem ck_blocks_is_folder : ckSs (T.ck ["entries", "entry", "k"] (defScope s_blocks_is_folder)) blocks_is_folder_body (defBody s_blocks_is_folder) = true := by decide +kernel
noncomputable abbrev s_blocks_is_block : Stmt := topS 20
theorem sc_blocks_is_block : FnScope ["thing"] ["thing"] (defScope s_blocks_is_block) := ⟨rfl, rfl, rfl, by decide +kernel, rfl, by decide +kernel, by decide +kernel⟩
theorem ck_blocks_is_block : ckSs (T.ck ["thing"] (defScope s_blocks_is_block)) blocks_is_block_body (defBody s_blocks_is_block) = true := by decide +kernel
noncomputable abbrev s_l_numbers : Stmt := topS 22
theorem sc_l_numbers : FnScope ["_law_cell", "_law_many", "_law_found", "_law_number", "_law_k"] ["_law_cell", "_law_many"] (defScope s_l_numbers) := ⟨rfl, rfl, rfl, by decide +kernel, rfl, by decide +kernel, by decide +kernel⟩
theorem ck_l_numbers : ckSs (T.ck ["_law_cell", "_law_many", "_law_found", "_law_number", "_law_k"] (defScope s_l_numbers)) l_numbers_body (defBody s_l_numbers) = true := by decide +kernel
noncomputable abbrev s_l_signs : Stmt := topS 23
theorem sc_l_signs : FnScope ["_law_some"] [] (defScope s_l_signs) := ⟨rfl, rfl, rfl, by decide +kernel, rfl, by decide +kernel, by decide +kernel⟩
theorem ck_l_signs : ckSs (T.ck ["_law_some"] (defScope s_l_signs)) l_signs_body (defBody s_l_signs) = true := by decide +kernel
noncomputable abbrev s_l_tag : Stmt := topS 24
theorem sc_l_tag : FnScope ["_law_number", "_law_found"] ["_law_number"] (defScope s_l_tag) := ⟨rfl, rfl, rfl, by decide +kernel, rfl, by decide +kernel, by decide +kernel⟩
theorem ck_l_tag : ckSs (T.ck ["_law_number", "_law_found"] (defScope s_l_tag)) l_tag_body (defBody s_l_tag) = true := by decide +kernel
noncomputable abbrev s_l_name : Stmt := topS 25
theorem sc_l_name : FnScope ["_law_number", "_law_size", "_law_signs_here", "_law_k"] ["_law_number"] (defScope s_l_name) := ⟨rfl, rfl, rfl, by decide +kernel, rfl, by decide +kernel, by decide +kernel⟩
theorem ck_l_name : ckSs (T.ck ["_law_number", "_law_size", "_law_signs_here", "_law_k"] (defScope s_l_name)) l_name_body (defBody s_l_name) = true := by decide +kernel
noncomputable abbrev s_l_block : Stmt := topS 26
theorem sc_l_block : FnScope ["_law_some", "_law_level", "_law_many", "_law_entries", "_law_number", "_law_name_here"] ["_law_some"] (defScope s_l_block) := ⟨rfl, rfl, rfl, by decide +kernel, rfl, by decide +kernel, by decide +kernel⟩
theorem ck_l_block : ckSs (T.ck ["_law_some", "_law_level", "_law_many", "_law_entries", "_law_number", "_law_name_here"] (defScope s_l_block)) l_block_body (defBody s_l_block) = true := by decide +kernel
noncomputable abbrev s_l_whole_from : Stmt := topS 27
theorem sc_l_whole_from : FnScope ["_law_thing", "_law_least", "_law_most"] ["_law_thing", "_law_least", "_law_most"] (defScope s_l_whole_from) := ⟨rfl, rfl, rfl, by decide +kernel, rfl, by decide +kernel, by decide +kernel⟩
theorem ck_l_whole_from : ckSs (T.ck ["_law_thing", "_law_least", "_law_most"] (defScope s_l_whole_from)) l_whole_from_body (defBody s_l_whole_from) = true := by decide +kernel
noncomputable abbrev s_l_is_name : Stmt := topS 28
theorem sc_l_is_name : FnScope ["_law_thing", "_law_sign"] ["_law_thing"] (defScope s_l_is_name) := ⟨rfl, rfl, rfl, by decide +kernel, rfl, by decide +kernel, by decide +kernel⟩
theorem ck_l_is_name : ckSs (T.ck ["_law_thing", "_law_sign"] (defScope s_l_is_name)) l_is_name_body (defBody s_l_is_name) = true := by decide +kernel
noncomputable abbrev s_law_is_tag : Stmt := topS 29
theorem sc_law_is_tag : FnScope ["_law_thing"] ["_law_thing"] (defScope s_law_is_tag) := ⟨rfl, rfl, rfl, by decide +kernel, rfl, by decide +kernel, by decide +kernel⟩
theorem ck_law_is_tag : ckSs (T.ck ["_law_thing"] (defScope s_law_is_tag)) law_is_tag_body (defBody s_law_is_tag) = true := by decide +kernel
noncomputable abbrev s_law_is_entry : Stmt := topS 30
theorem sc_law_is_entry : FnScope ["_law_thing"] ["_law_thing"] (defScope s_law_is_entry) := ⟨rfl, rfl, rfl, by decide +kernel, rfl, by decide +kernel, by decide +kernel⟩
theorem ck_law_is_entry : ckSs (T.ck ["_law_thing"] (defScope s_law_is_entry)) law_is_entry_body (defBody s_law_is_entry) = true := by decide +kernel
noncomputable abbrev s_law_is_block : Stmt := topS 31
theorem sc_law_is_block : FnScope ["_law_thing", "_law_names", "_law_sign", "_law_tag_here", "_law_entry"] ["_law_thing"] (defScope s_law_is_block) := ⟨rfl, rfl, rfl, by decide +kernel, rfl, by decide +kernel, by decide +kernel⟩
theorem ck_law_is_block : ckSs (T.ck ["_law_thing", "_law_names", "_law_sign", "_law_tag_here", "_law_entry"] (defScope s_law_is_block)) law_is_block_body (defBody s_law_is_block) = true := by decide +kernel
noncomputable abbrev s_law_other : Stmt := topS 32
theorem sc_law_other : FnScope ["_law_some", "_law_thing", "_law_found"] ["_law_some", "_law_thing"] (defScope s_law_other) := ⟨rfl, rfl, rfl, by decide +kernel, rfl, by decide +kernel, by decide +kernel⟩
theorem ck_law_other : ckSs (T.ck ["_law_some", "_law_thing", "_law_found"] (defScope s_law_other)) law_other_body (defBody s_law_other) = true := by decide +kernel
noncomputable abbrev s_law_bent : Stmt := topS 33
theorem sc_law_bent : FnScope ["_law_thing", "_law_some", "_law_deep", "_law_at", "_law_how"] ["_law_thing", "_law_some", "_law_deep"] (defScope s_law_bent) := ⟨rfl, rfl, rfl, by decide +kernel, rfl, by decide +kernel, by decide +kernel⟩
theorem ck_law_bent : ckSs (T.ck ["_law_thing", "_law_some", "_law_deep", "_law_at", "_law_how"] (defScope s_law_bent)) law_bent_body (defBody s_law_bent) = true := by decide +kernel
noncomputable abbrev s_l_copied : Stmt := topS 34
theorem sc_l_copied : FnScope ["_law_thing", "_law_part"] ["_law_thing"] (defScope s_l_copied) := ⟨rfl, rfl, rfl, by decide +kernel, rfl, by decide +kernel, by decide +kernel⟩
theorem ck_l_copied : ckSs (T.ck ["_law_thing", "_law_part"] (defScope s_l_copied)) l_copied_body (defBody s_l_copied) = true := by decide +kernel
noncomputable abbrev s_law : Stmt := topS 35
theorem sc_law : FnScope ["_law_script", "_law_cell", "_law_some", "_law_block_here", "_law_thing", "_law_kept", "_law_found"] ["_law_script"] (defScope s_law) := ⟨rfl, rfl, rfl, by decide +kernel, rfl, by decide +kernel, by decide +kernel⟩
theorem ck_law : ckSs (T.ck ["_law_script", "_law_cell", "_law_some", "_law_block_here", "_law_thing", "_law_kept", "_law_found"] (defScope s_law)) law_body (defBody s_law) = true := by decide +kernel
set_option maxHeartbeats 4000000 in
theorem mk_top {w : World} {K : PySem.W.Frag} {h : Heap} {mg : Str → Option Value} {fa : Addr} {n : Nat} (X : K.In h) (G : h.Ns mainGlobals mg) (hfa : mg "law" = some (.ref fa))
    {od0 an0 : Option Addr} {sl0 : Array (Option Value)} {f0 : Addr} {oc0 kV0 dc0 pm0 cd0 ct0 : Value} (a0 : PySem.W.nsIn K mainGlobals "is_text" = some (some (.ref f0))) (l0 : K.lookup f0 = some ⟨oc0, od0, .func (PySem.W.fnOf "is_text" "is_text" (defArgs s_signs_is_text) (defBody s_signs_is_text) (defScope s_signs_is_text) .none kV0 dc0 pm0 an0 cd0 ct0), sl0⟩) (c0 : PySem.W.codeIn K cd0 "is_text" = true) (k0 : PySem.W.keepIn K (.ref f0) = true)
    {od1 an1 : Option Addr} {sl1 : Array (Option Value)} {f1 : Addr} {oc1 kV1 dc1 pm1 cd1 ct1 : Value} (a1 : PySem.W.nsIn K mainGlobals "is_number" = some (some (.ref f1))) (l1 : K.lookup f1 = some ⟨oc1, od1, .func (PySem.W.fnOf "is_number" "is_number" (defArgs s_things_is_number) (defBody s_things_is_number) (defScope s_things_is_number) .none kV1 dc1 pm1 an1 cd1 ct1), sl1⟩) (c1 : PySem.W.codeIn K cd1 "is_number" = true) (k1 : PySem.W.keepIn K (.ref f1) = true)
    {od2 an2 : Option Addr} {sl2 : Array (Option Value)} {f2 : Addr} {oc2 kV2 dc2 pm2 cd2 ct2 : Value} (a2 : PySem.W.nsIn K mainGlobals "is_name" = some (some (.ref f2))) (l2 : K.lookup f2 = some ⟨oc2, od2, .func (PySem.W.fnOf "is_name" "is_name" (defArgs s_blocks_is_name) (defBody s_blocks_is_name) (defScope s_blocks_is_name) .none kV2 dc2 pm2 an2 cd2 ct2), sl2⟩) (c2 : PySem.W.codeIn K cd2 "is_name" = true) (k2 : PySem.W.keepIn K (.ref f2) = true)
    {od3 an3 : Option Addr} {sl3 : Array (Option Value)} {f3 : Addr} {oc3 kV3 dc3 pm3 cd3 ct3 : Value} (a3 : PySem.W.nsIn K mainGlobals "is_tag" = some (some (.ref f3))) (l3 : K.lookup f3 = some ⟨oc3, od3, .func (PySem.W.fnOf "is_tag" "is_tag" (defArgs s_blocks_is_tag) (defBody s_blocks_is_tag) (defScope s_blocks_is_tag) .none kV3 dc3 pm3 an3 cd3 ct3), sl3⟩) (c3 : PySem.W.codeIn K cd3 "is_tag" = true) (k3 : PySem.W.keepIn K (.ref f3) = true)
    {od4 an4 : Option Addr} {sl4 : Array (Option Value)} {f4 : Addr} {oc4 kV4 dc4 pm4 cd4 ct4 : Value} (a4 : PySem.W.nsIn K mainGlobals "is_row" = some (some (.ref f4))) (l4 : K.lookup f4 = some ⟨oc4, od4, .func (PySem.W.fnOf "is_row" "is_row" (defArgs s_blocks_is_row) (defBody s_blocks_is_row) (defScope s_blocks_is_row) .none kV4 dc4 pm4 an4 cd4 ct4), sl4⟩) (c4 : PySem.W.codeIn K cd4 "is_row" = true) (k4 : PySem.W.keepIn K (.ref f4) = true)
    {od5 an5 : Option Addr} {sl5 : Array (Option Value)} {f5 : Addr} {oc5 kV5 dc5 pm5 cd5 ct5 : Value} (a5 : PySem.W.nsIn K mainGlobals "is_entry" = some (some (.ref f5))) (l5 : K.lookup f5 = some ⟨oc5, od5, .func (PySem.W.fnOf "is_entry" "is_entry" (defArgs s_blocks_is_entry) (defBody s_blocks_is_entry) (defScope s_blocks_is_entry) .none kV5 dc5 pm5 an5 cd5 ct5), sl5⟩) (c5 : PySem.W.codeIn K cd5 "is_entry" = true) (k5 : PySem.W.keepIn K (.ref f5) = true)
    {od6 an6 : Option Addr} {sl6 : Array (Option Value)} {f6 : Addr} {oc6 kV6 dc6 pm6 cd6 ct6 : Value} (a6 : PySem.W.nsIn K mainGlobals "is_folder" = some (some (.ref f6))) (l6 : K.lookup f6 = some ⟨oc6, od6, .func (PySem.W.fnOf "is_folder" "is_folder" (defArgs s_blocks_is_folder) (defBody s_blocks_is_folder) (defScope s_blocks_is_folder) .none kV6 dc6 pm6 an6 cd6 ct6), sl6⟩) (c6 : PySem.W.codeIn K cd6 "is_folder" = true) (k6 : PySem.W.keepIn K (.ref f6) = true)
    {od7 an7 : Option Addr} {sl7 : Array (Option Value)} {f7 : Addr} {oc7 kV7 dc7 pm7 cd7 ct7 : Value} (a7 : PySem.W.nsIn K mainGlobals "is_block" = some (some (.ref f7))) (l7 : K.lookup f7 = some ⟨oc7, od7, .func (PySem.W.fnOf "is_block" "is_block" (defArgs s_blocks_is_block) (defBody s_blocks_is_block) (defScope s_blocks_is_block) .none kV7 dc7 pm7 an7 cd7 ct7), sl7⟩) (c7 : PySem.W.codeIn K cd7 "is_block" = true) (k7 : PySem.W.keepIn K (.ref f7) = true)
    {od8 an8 : Option Addr} {sl8 : Array (Option Value)} {f8 : Addr} {oc8 kV8 dc8 pm8 cd8 ct8 : Value} (a8 : PySem.W.nsIn K mainGlobals "_law_numbers" = some (some (.ref f8))) (l8 : K.lookup f8 = some ⟨oc8, od8, .func (PySem.W.fnOf "_law_numbers" "_law_numbers" (defArgs s_l_numbers) (defBody s_l_numbers) (defScope s_l_numbers) .none kV8 dc8 pm8 an8 cd8 ct8), sl8⟩) (c8 : PySem.W.codeIn K cd8 "_law_numbers" = true) (k8 : PySem.W.keepIn K (.ref f8) = true)
    {od9 an9 : Option Addr} {sl9 : Array (Option Value)} {f9 : Addr} {oc9 kV9 dc9 pm9 cd9 ct9 : Value} (a9 : PySem.W.nsIn K mainGlobals "_law_signs" = some (some (.ref f9))) (l9 : K.lookup f9 = some ⟨oc9, od9, .func (PySem.W.fnOf "_law_signs" "_law_signs" (defArgs s_l_signs) (defBody s_l_signs) (defScope s_l_signs) .none kV9 dc9 pm9 an9 cd9 ct9), sl9⟩) (c9 : PySem.W.codeIn K cd9 "_law_signs" = true) (k9 : PySem.W.keepIn K (.ref f9) = true)
    {od10 an10 : Option Addr} {sl10 : Array (Option Value)} {f10 : Addr} {oc10 kV10 dc10 pm10 cd10 ct10 : Value} (a10 : PySem.W.nsIn K mainGlobals "_law_tag" = some (some (.ref f10))) (l10 : K.lookup f10 = some ⟨oc10, od10, .func (PySem.W.fnOf "_law_tag" "_law_tag" (defArgs s_l_tag) (defBody s_l_tag) (defScope s_l_tag) .none kV10 dc10 pm10 an10 cd10 ct10), sl10⟩) (c10 : PySem.W.codeIn K cd10 "_law_tag" = true) (k10 : PySem.W.keepIn K (.ref f10) = true)
    {od11 an11 : Option Addr} {sl11 : Array (Option Value)} {f11 : Addr} {oc11 kV11 dc11 pm11 cd11 ct11 : Value} (a11 : PySem.W.nsIn K mainGlobals "_law_name" = some (some (.ref f11))) (l11 : K.lookup f11 = some ⟨oc11, od11, .func (PySem.W.fnOf "_law_name" "_law_name" (defArgs s_l_name) (defBody s_l_name) (defScope s_l_name) .none kV11 dc11 pm11 an11 cd11 ct11), sl11⟩) (c11 : PySem.W.codeIn K cd11 "_law_name" = true) (k11 : PySem.W.keepIn K (.ref f11) = true)
    {od12 an12 : Option Addr} {sl12 : Array (Option Value)} {f12 : Addr} {oc12 kV12 dc12 pm12 cd12 ct12 : Value} (a12 : PySem.W.nsIn K mainGlobals "_law_block" = some (some (.ref f12))) (l12 : K.lookup f12 = some ⟨oc12, od12, .func (PySem.W.fnOf "_law_block" "_law_block" (defArgs s_l_block) (defBody s_l_block) (defScope s_l_block) .none kV12 dc12 pm12 an12 cd12 ct12), sl12⟩) (c12 : PySem.W.codeIn K cd12 "_law_block" = true) (k12 : PySem.W.keepIn K (.ref f12) = true)
    {od13 an13 : Option Addr} {sl13 : Array (Option Value)} {f13 : Addr} {oc13 kV13 dc13 pm13 cd13 ct13 : Value} (a13 : PySem.W.nsIn K mainGlobals "_law_whole_from" = some (some (.ref f13))) (l13 : K.lookup f13 = some ⟨oc13, od13, .func (PySem.W.fnOf "_law_whole_from" "_law_whole_from" (defArgs s_l_whole_from) (defBody s_l_whole_from) (defScope s_l_whole_from) .none kV13 dc13 pm13 an13 cd13 ct13), sl13⟩) (c13 : PySem.W.codeIn K cd13 "_law_whole_from" = true) (k13 : PySem.W.keepIn K (.ref f13) = true)
    {od14 an14 : Option Addr} {sl14 : Array (Option Value)} {f14 : Addr} {oc14 kV14 dc14 pm14 cd14 ct14 : Value} (a14 : PySem.W.nsIn K mainGlobals "_law_is_name" = some (some (.ref f14))) (l14 : K.lookup f14 = some ⟨oc14, od14, .func (PySem.W.fnOf "_law_is_name" "_law_is_name" (defArgs s_l_is_name) (defBody s_l_is_name) (defScope s_l_is_name) .none kV14 dc14 pm14 an14 cd14 ct14), sl14⟩) (c14 : PySem.W.codeIn K cd14 "_law_is_name" = true) (k14 : PySem.W.keepIn K (.ref f14) = true)
    {od15 an15 : Option Addr} {sl15 : Array (Option Value)} {f15 : Addr} {oc15 kV15 dc15 pm15 cd15 ct15 : Value} (a15 : PySem.W.nsIn K mainGlobals "_law_is_tag" = some (some (.ref f15))) (l15 : K.lookup f15 = some ⟨oc15, od15, .func (PySem.W.fnOf "_law_is_tag" "_law_is_tag" (defArgs s_law_is_tag) (defBody s_law_is_tag) (defScope s_law_is_tag) .none kV15 dc15 pm15 an15 cd15 ct15), sl15⟩) (c15 : PySem.W.codeIn K cd15 "_law_is_tag" = true) (k15 : PySem.W.keepIn K (.ref f15) = true)
    {od16 an16 : Option Addr} {sl16 : Array (Option Value)} {f16 : Addr} {oc16 kV16 dc16 pm16 cd16 ct16 : Value} (a16 : PySem.W.nsIn K mainGlobals "_law_is_entry" = some (some (.ref f16))) (l16 : K.lookup f16 = some ⟨oc16, od16, .func (PySem.W.fnOf "_law_is_entry" "_law_is_entry" (defArgs s_law_is_entry) (defBody s_law_is_entry) (defScope s_law_is_entry) .none kV16 dc16 pm16 an16 cd16 ct16), sl16⟩) (c16 : PySem.W.codeIn K cd16 "_law_is_entry" = true) (k16 : PySem.W.keepIn K (.ref f16) = true)
    {od17 an17 : Option Addr} {sl17 : Array (Option Value)} {f17 : Addr} {oc17 kV17 dc17 pm17 cd17 ct17 : Value} (a17 : PySem.W.nsIn K mainGlobals "_law_is_block" = some (some (.ref f17))) (l17 : K.lookup f17 = some ⟨oc17, od17, .func (PySem.W.fnOf "_law_is_block" "_law_is_block" (defArgs s_law_is_block) (defBody s_law_is_block) (defScope s_law_is_block) .none kV17 dc17 pm17 an17 cd17 ct17), sl17⟩) (c17 : PySem.W.codeIn K cd17 "_law_is_block" = true) (k17 : PySem.W.keepIn K (.ref f17) = true)
    {od18 an18 : Option Addr} {sl18 : Array (Option Value)} {f18 : Addr} {oc18 kV18 dc18 pm18 cd18 ct18 : Value} (a18 : PySem.W.nsIn K mainGlobals "_law_other" = some (some (.ref f18))) (l18 : K.lookup f18 = some ⟨oc18, od18, .func (PySem.W.fnOf "_law_other" "_law_other" (defArgs s_law_other) (defBody s_law_other) (defScope s_law_other) .none kV18 dc18 pm18 an18 cd18 ct18), sl18⟩) (c18 : PySem.W.codeIn K cd18 "_law_other" = true) (k18 : PySem.W.keepIn K (.ref f18) = true)
    {od19 an19 : Option Addr} {sl19 : Array (Option Value)} {f19 : Addr} {oc19 kV19 dc19 pm19 cd19 ct19 : Value} (a19 : PySem.W.nsIn K mainGlobals "_law_bent" = some (some (.ref f19))) (l19 : K.lookup f19 = some ⟨oc19, od19, .func (PySem.W.fnOf "_law_bent" "_law_bent" (defArgs s_law_bent) (defBody s_law_bent) (defScope s_law_bent) .none kV19 dc19 pm19 an19 cd19 ct19), sl19⟩) (c19 : PySem.W.codeIn K cd19 "_law_bent" = true) (k19 : PySem.W.keepIn K (.ref f19) = true)
    {od20 an20 : Option Addr} {sl20 : Array (Option Value)} {f20 : Addr} {oc20 kV20 dc20 pm20 cd20 ct20 : Value} (a20 : PySem.W.nsIn K mainGlobals "_law_copied" = some (some (.ref f20))) (l20 : K.lookup f20 = some ⟨oc20, od20, .func (PySem.W.fnOf "_law_copied" "_law_copied" (defArgs s_l_copied) (defBody s_l_copied) (defScope s_l_copied) .none kV20 dc20 pm20 an20 cd20 ct20), sl20⟩) (c20 : PySem.W.codeIn K cd20 "_law_copied" = true) (k20 : PySem.W.keepIn K (.ref f20) = true)
    {od21 an21 : Option Addr} {sl21 : Array (Option Value)} {f21 : Addr} {oc21 kV21 dc21 pm21 cd21 ct21 : Value} (a21 : PySem.W.nsIn K mainGlobals "law" = some (some (.ref f21))) (l21 : K.lookup f21 = some ⟨oc21, od21, .func (PySem.W.fnOf "law" "law" (defArgs s_law) (defBody s_law) (defScope s_law) .none kV21 dc21 pm21 an21 cd21 ct21), sl21⟩) (c21 : PySem.W.codeIn K cd21 "law" = true) (k21 : PySem.W.keepIn K (.ref f21) = true)
    (z0 : PySem.W.nsIn K mainGlobals "len" = some none)
    (z1 : PySem.W.nsIn K mainGlobals "int" = some none)
    (z2 : PySem.W.nsIn K mainGlobals "str" = some none)
    (z3 : PySem.W.nsIn K mainGlobals "list" = some none)
    (z4 : PySem.W.nsIn K mainGlobals "tuple" = some none)
    (z5 : PySem.W.nsIn K mainGlobals "abs" = some none)
    (z6 : PySem.W.nsIn K mainGlobals "sum" = some none)
    (z7 : PySem.W.nsIn K mainGlobals "all" = some none)
    (z8 : PySem.W.nsIn K mainGlobals "any" = some none)
    (z9 : PySem.W.nsIn K mainGlobals "min" = some none)
    (z10 : PySem.W.nsIn K mainGlobals "max" = some none)
    (z11 : PySem.W.nsIn K mainGlobals "sorted" = some none)
    (z12 : PySem.W.nsIn K mainGlobals "range" = some none)
    (z13 : PySem.W.nsIn K mainGlobals "enumerate" = some none)
    (z14 : PySem.W.nsIn K mainGlobals "zip" = some none)
    (z15 : PySem.W.nsIn K mainGlobals "reversed" = some none)
    (z16 : PySem.W.nsIn K mainGlobals "isinstance" = some none)
    (z17 : PySem.W.nsIn K mainGlobals "bool" = some none)
    (z18 : PySem.W.nsIn K mainGlobals "dict" = some none)
    (z19 : PySem.W.nsIn K mainGlobals "set" = some none)
    {tk0 : Tok} (y0 : PySem.W.nsIn K mainGlobals "BY" = some (some (.int 997 tk0)))
    {tk1 : Tok} (y1 : PySem.W.nsIn K mainGlobals "GREATEST" = some (some (.int 999999999 tk1)))
    {tk2 : Tok} (y2 : PySem.W.nsIn K mainGlobals "MOST_CELLS" = some (some (.int 999999 tk2)))
    {tk3 : Tok} (y3 : PySem.W.nsIn K mainGlobals "MOST_ENTRIES" = some (some (.int 16 tk3)))
    {tk4 : Tok} (y4 : PySem.W.nsIn K mainGlobals "MOST_LEVEL" = some (some (.int 9 tk4)))
    {tk5 : Tok} (y5 : PySem.W.nsIn K mainGlobals "MOST_NAMED" = some (some (.int 8 tk5)))
    {tk6 : Tok} (y6 : PySem.W.nsIn K mainGlobals "MOST_PIECE" = some (some (.int 8 tk6)))
    {tk7 : Tok} (y7 : PySem.W.nsIn K mainGlobals "MOST_TAGS" = some (some (.int 8 tk7)))
    {tk8 : Tok} (y8 : PySem.W.nsIn K mainGlobals "NAMED" = some (some (.str (strS [97, 98, 99, 100, 101, 102, 103, 104, 105, 106, 107, 108, 109, 110, 111, 112, 113, 114, 115, 116, 117, 118, 119, 120, 121, 122, 48, 49, 50, 51, 52, 53, 54, 55, 56, 57]) tk8)))
    {tk9 : Tok} (y9 : PySem.W.nsIn K mainGlobals "SIGNS" = some (some (.str (strS [32, 33, 34, 35, 36, 38, 39, 40, 41, 42, 43, 44, 45, 46, 47, 48, 49, 50, 51, 52, 53, 54, 55, 56, 57, 58, 59, 60, 61, 62, 63, 64, 65, 66, 67, 68, 69, 70, 71, 72, 73, 74, 75, 76, 77, 78, 79, 80, 81, 82, 83, 84, 85, 86, 87, 88, 89, 90, 91, 92, 93, 94, 95, 96, 97, 98, 99, 100, 101, 102, 103, 104, 105, 106, 107, 108, 109, 110, 111, 112, 113, 114, 115, 116, 117, 118, 119, 120, 121, 122, 123, 124, 125, 126]) tk9)))
    : ∃ fd : FuncData, (∀ (s : Shared) (v : Value), BindsTo s fd ⟨[v], []⟩ [("_law_script", v)]) ∧ ∀ base : Heap, K.In base → base.Ns mainGlobals mg → FnOk PySem.Challenge.rw_stemshelf_k12_what_is_a_block.prog w K mg base (L2.CX PySem.Challenge.rw_stemshelf_k12_what_is_a_block.prog w) (2 * n) fa fd ["_law_script"] (fun vs H Q E => ∀ ca, spN (cx w ca) (callN P n) K 3005 vs H Q E) := by
  have e := hfa.symm.trans (PySem.W.mg_of X G a21)
  cases e
  have F0 := fun_mk (st := s_signs_is_text) l0 c0 k0
  have b0 := F0.binds (ps := ["thing", "most"]) fun _ _ _ _ _ _ us hl => match us, hl with | [_, _], _ => rfl
  have D0 : FnDat T K mg 2 signs_is_text_fn f0 _ ["thing", "most"] := ⟨_, _, _, ["thing", "most", "sign"], rfl, PySem.W.mg_of X G a0, F0, b0, sc_signs_is_text, rfl, rfl, ck_signs_is_text⟩
  have F1 := fun_mk (st := s_things_is_number) l1 c1 k1
  have b1 := F1.binds (ps := ["thing"]) fun _ _ _ _ _ _ us hl => match us, hl with | [_], _ => rfl
  have D1 : FnDat T K mg 4 things_is_number_fn f1 _ ["thing"] := ⟨_, _, _, ["thing"], rfl, PySem.W.mg_of X G a1, F1, b1, sc_things_is_number, rfl, rfl, ck_things_is_number⟩
  have F2 := fun_mk (st := s_blocks_is_name) l2 c2 k2
  have b2 := F2.binds (ps := ["thing"]) fun _ _ _ _ _ _ us hl => match us, hl with | [_], _ => rfl
  have D2 : FnDat T K mg 17 blocks_is_name_fn f2 _ ["thing"] := ⟨_, _, _, ["thing", "sign"], rfl, PySem.W.mg_of X G a2, F2, b2, sc_blocks_is_name, rfl, rfl, ck_blocks_is_name⟩
  have F3 := fun_mk (st := s_blocks_is_tag) l3 c3 k3
  have b3 := F3.binds (ps := ["thing"]) fun _ _ _ _ _ _ us hl => match us, hl with | [_], _ => rfl
  have D3 : FnDat T K mg 18 blocks_is_tag_fn f3 _ ["thing"] := ⟨_, _, _, ["thing", "part"], rfl, PySem.W.mg_of X G a3, F3, b3, sc_blocks_is_tag, rfl, rfl, ck_blocks_is_tag⟩
  have F4 := fun_mk (st := s_blocks_is_row) l4 c4 k4
  have b4 := F4.binds (ps := ["thing"]) fun _ _ _ _ _ _ us hl => match us, hl with | [_], _ => rfl
  have D4 : FnDat T K mg 19 blocks_is_row_fn f4 _ ["thing"] := ⟨_, _, _, ["thing", "level", "tags", "tag"], rfl, PySem.W.mg_of X G a4, F4, b4, sc_blocks_is_row, rfl, rfl, ck_blocks_is_row⟩
  have F5 := fun_mk (st := s_blocks_is_entry) l5 c5 k5
  have b5 := F5.binds (ps := ["thing"]) fun _ _ _ _ _ _ us hl => match us, hl with | [_], _ => rfl
  have D5 : FnDat T K mg 20 blocks_is_entry_fn f5 _ ["thing"] := ⟨_, _, _, ["thing"], rfl, PySem.W.mg_of X G a5, F5, b5, sc_blocks_is_entry, rfl, rfl, ck_blocks_is_entry⟩
  have F6 := fun_mk (st := s_blocks_is_folder) l6 c6 k6
  have b6 := F6.binds (ps := ["entries"]) fun _ _ _ _ _ _ us hl => match us, hl with | [_], _ => rfl
  have D6 : FnDat T K mg 21 blocks_is_folder_fn f6 _ ["entries"] := ⟨_, _, _, ["entries", "entry", "k"], rfl, PySem.W.mg_of X G a6, F6, b6, sc_blocks_is_folder, rfl, rfl, ck_blocks_is_folder⟩
  have F7 := fun_mk (st := s_blocks_is_block) l7 c7 k7
  have b7 := F7.binds (ps := ["thing"]) fun _ _ _ _ _ _ us hl => match us, hl with | [_], _ => rfl
  have D7 : FnDat T K mg 22 blocks_is_block_fn f7 _ ["thing"] := ⟨_, _, _, ["thing"], rfl, PySem.W.mg_of X G a7, F7, b7, sc_blocks_is_block, rfl, rfl, ck_blocks_is_block⟩
  have F8 := fun_mk (st := s_l_numbers) l8 c8 k8
  have b8 := F8.binds (ps := ["_law_cell", "_law_many"]) fun _ _ _ _ _ _ us hl => match us, hl with | [_, _], _ => rfl
  have D8 : FnDat T K mg 1002 l_numbers_fn f8 _ ["_law_cell", "_law_many"] := ⟨_, _, _, ["_law_cell", "_law_many", "_law_found", "_law_number", "_law_k"], rfl, PySem.W.mg_of X G a8, F8, b8, sc_l_numbers, rfl, rfl, ck_l_numbers⟩
  have F9 := fun_mk (st := s_l_signs) l9 c9 k9
  have b9 := F9.binds (ps := []) fun _ _ _ _ _ _ us hl => match us, hl with | [], _ => rfl
  have D9 : FnDat T K mg 1000 l_signs_fn f9 _ [] := ⟨_, _, _, ["_law_some"], rfl, PySem.W.mg_of X G a9, F9, b9, sc_l_signs, rfl, rfl, ck_l_signs⟩
  have F10 := fun_mk (st := s_l_tag) l10 c10 k10
  have b10 := F10.binds (ps := ["_law_number"]) fun _ _ _ _ _ _ us hl => match us, hl with | [_], _ => rfl
  have D10 : FnDat T K mg 1012 l_tag_fn f10 _ ["_law_number"] := ⟨_, _, _, ["_law_number", "_law_found"], rfl, PySem.W.mg_of X G a10, F10, b10, sc_l_tag, rfl, rfl, ck_l_tag⟩
  have F11 := fun_mk (st := s_l_name) l11 c11 k11
  have b11 := F11.binds (ps := ["_law_number"]) fun _ _ _ _ _ _ us hl => match us, hl with | [_], _ => rfl
  have D11 : FnDat T K mg 1013 l_name_fn f11 _ ["_law_number"] := ⟨_, _, _, ["_law_number", "_law_size", "_law_signs_here", "_law_k"], rfl, PySem.W.mg_of X G a11, F11, b11, sc_l_name, rfl, rfl, ck_l_name⟩
  have F12 := fun_mk (st := s_l_block) l12 c12 k12
  have b12 := F12.binds (ps := ["_law_some"]) fun _ _ _ _ _ _ us hl => match us, hl with | [_], _ => rfl
  have D12 : FnDat T K mg 1014 l_block_fn f12 _ ["_law_some"] := ⟨_, _, _, ["_law_some", "_law_level", "_law_many", "_law_entries", "_law_number", "_law_name_here"], rfl, PySem.W.mg_of X G a12, F12, b12, sc_l_block, rfl, rfl, ck_l_block⟩
  have F13 := fun_mk (st := s_l_whole_from) l13 c13 k13
  have b13 := F13.binds (ps := ["_law_thing", "_law_least", "_law_most"]) fun _ _ _ _ _ _ us hl => match us, hl with | [_, _, _], _ => rfl
  have D13 : FnDat T K mg 1010 l_whole_from_fn f13 _ ["_law_thing", "_law_least", "_law_most"] := ⟨_, _, _, ["_law_thing", "_law_least", "_law_most"], rfl, PySem.W.mg_of X G a13, F13, b13, sc_l_whole_from, rfl, rfl, ck_l_whole_from⟩
  have F14 := fun_mk (st := s_l_is_name) l14 c14 k14
  have b14 := F14.binds (ps := ["_law_thing"]) fun _ _ _ _ _ _ us hl => match us, hl with | [_], _ => rfl
  have D14 : FnDat T K mg 1011 l_is_name_fn f14 _ ["_law_thing"] := ⟨_, _, _, ["_law_thing", "_law_sign"], rfl, PySem.W.mg_of X G a14, F14, b14, sc_l_is_name, rfl, rfl, ck_l_is_name⟩
  have F15 := fun_mk (st := s_law_is_tag) l15 c15 k15
  have b15 := F15.binds (ps := ["_law_thing"]) fun _ _ _ _ _ _ us hl => match us, hl with | [_], _ => rfl
  have D15 : FnDat T K mg 3000 law_is_tag_fn f15 _ ["_law_thing"] := ⟨_, _, _, ["_law_thing"], rfl, PySem.W.mg_of X G a15, F15, b15, sc_law_is_tag, rfl, rfl, ck_law_is_tag⟩
  have F16 := fun_mk (st := s_law_is_entry) l16 c16 k16
  have b16 := F16.binds (ps := ["_law_thing"]) fun _ _ _ _ _ _ us hl => match us, hl with | [_], _ => rfl
  have D16 : FnDat T K mg 3001 law_is_entry_fn f16 _ ["_law_thing"] := ⟨_, _, _, ["_law_thing"], rfl, PySem.W.mg_of X G a16, F16, b16, sc_law_is_entry, rfl, rfl, ck_law_is_entry⟩
  have F17 := fun_mk (st := s_law_is_block) l17 c17 k17
  have b17 := F17.binds (ps := ["_law_thing"]) fun _ _ _ _ _ _ us hl => match us, hl with | [_], _ => rfl
  have D17 : FnDat T K mg 3002 law_is_block_fn f17 _ ["_law_thing"] := ⟨_, _, _, ["_law_thing", "_law_names", "_law_sign", "_law_tag_here", "_law_entry"], rfl, PySem.W.mg_of X G a17, F17, b17, sc_law_is_block, rfl, rfl, ck_law_is_block⟩
  have F18 := fun_mk (st := s_law_other) l18 c18 k18
  have b18 := F18.binds (ps := ["_law_some", "_law_thing"]) fun _ _ _ _ _ _ us hl => match us, hl with | [_, _], _ => rfl
  have D18 : FnDat T K mg 3003 law_other_fn f18 _ ["_law_some", "_law_thing"] := ⟨_, _, _, ["_law_some", "_law_thing", "_law_found"], rfl, PySem.W.mg_of X G a18, F18, b18, sc_law_other, rfl, rfl, ck_law_other⟩
  have F19 := fun_mk (st := s_law_bent) l19 c19 k19
  have b19 := F19.binds (ps := ["_law_thing", "_law_some", "_law_deep"]) fun _ _ _ _ _ _ us hl => match us, hl with | [_, _, _], _ => rfl
  have D19 : FnDat T K mg 3004 law_bent_fn f19 _ ["_law_thing", "_law_some", "_law_deep"] := ⟨_, _, _, ["_law_thing", "_law_some", "_law_deep", "_law_at", "_law_how"], rfl, PySem.W.mg_of X G a19, F19, b19, sc_law_bent, rfl, rfl, ck_law_bent⟩
  have F20 := fun_mk (st := s_l_copied) l20 c20 k20
  have b20 := F20.binds (ps := ["_law_thing"]) fun _ _ _ _ _ _ us hl => match us, hl with | [_], _ => rfl
  have D20 : FnDat T K mg 1007 l_copied_fn f20 _ ["_law_thing"] := ⟨_, _, _, ["_law_thing", "_law_part"], rfl, PySem.W.mg_of X G a20, F20, b20, sc_l_copied, rfl, rfl, ck_l_copied⟩
  have F21 := fun_mk (st := s_law) l21 c21 k21
  have b21 := F21.binds (ps := ["_law_script"]) fun _ _ _ _ _ _ us hl => match us, hl with | [_], _ => rfl
  have D21 : FnDat T K mg 3005 law_fn fa _ ["_law_script"] := ⟨_, _, _, ["_law_script", "_law_cell", "_law_some", "_law_block_here", "_law_thing", "_law_kept", "_law_found"], rfl, PySem.W.mg_of X G a21, F21, b21, sc_law, rfl, rfl, ck_law⟩
  have En : Env1 (cx w fun k => 0) T K mg := by
    refine ⟨fun f x h => ?_, fun x hx => ?_, fun x v hx => ?_, fun d x h => ?_, fun f x h => ?_, rfl, fun k x h => ?_, fun f k m h => ?_, fun f k x h => ?_, fun k f hk hf => ?_, rfl, fun k x h => ?_, fun k h => ?_, fun j y h => ?_⟩
    · exact (show ∀ p ∈ T.fnm, ∃ d fa fd ps, P.fns p.1 = some d ∧ FnDat T K mg p.1 d fa fd ps from fa_cons ⟨_, _, _, _, rfl, D0⟩ (fa_cons ⟨_, _, _, _, rfl, D1⟩ (fa_cons ⟨_, _, _, _, rfl, D2⟩ (fa_cons ⟨_, _, _, _, rfl, D3⟩ (fa_cons ⟨_, _, _, _, rfl, D4⟩ (fa_cons ⟨_, _, _, _, rfl, D5⟩ (fa_cons ⟨_, _, _, _, rfl, D6⟩ (fa_cons ⟨_, _, _, _, rfl, D7⟩ (fa_cons ⟨_, _, _, _, rfl, D8⟩ (fa_cons ⟨_, _, _, _, rfl, D9⟩ (fa_cons ⟨_, _, _, _, rfl, D10⟩ (fa_cons ⟨_, _, _, _, rfl, D11⟩ (fa_cons ⟨_, _, _, _, rfl, D12⟩ (fa_cons ⟨_, _, _, _, rfl, D13⟩ (fa_cons ⟨_, _, _, _, rfl, D14⟩ (fa_cons ⟨_, _, _, _, rfl, D15⟩ (fa_cons ⟨_, _, _, _, rfl, D16⟩ (fa_cons ⟨_, _, _, _, rfl, D17⟩ (fa_cons ⟨_, _, _, _, rfl, D18⟩ (fa_cons ⟨_, _, _, _, rfl, D19⟩ (fa_cons ⟨_, _, _, _, rfl, D20⟩ (fa_cons ⟨_, _, _, _, rfl, D21⟩ (fa_nil))))))))))))))))))))))) (f, x) (lookup_mem h)
    · simp only [bltNames, List.mem_cons, List.not_mem_nil, or_false] at hx
      rcases hx with rfl | rfl | rfl | rfl | rfl | rfl | rfl | rfl | rfl | rfl | rfl | rfl | rfl | rfl | rfl | rfl | rfl | rfl | rfl | rfl
      · exact PySem.W.mg_none_of X G z0
      · exact PySem.W.mg_none_of X G z1
      · exact PySem.W.mg_none_of X G z2
      · exact PySem.W.mg_none_of X G z3
      · exact PySem.W.mg_none_of X G z4
      · exact PySem.W.mg_none_of X G z5
      · exact PySem.W.mg_none_of X G z6
      · exact PySem.W.mg_none_of X G z7
      · exact PySem.W.mg_none_of X G z8
      · exact PySem.W.mg_none_of X G z9
      · exact PySem.W.mg_none_of X G z10
      · exact PySem.W.mg_none_of X G z11
      · exact PySem.W.mg_none_of X G z12
      · exact PySem.W.mg_none_of X G z13
      · exact PySem.W.mg_none_of X G z14
      · exact PySem.W.mg_none_of X G z15
      · exact PySem.W.mg_none_of X G z16
      · exact PySem.W.mg_none_of X G z17
      · exact PySem.W.mg_none_of X G z18
      · exact PySem.W.mg_none_of X G z19
    · simp only [T, List.mem_cons, List.not_mem_nil, or_false, Prod.mk.injEq] at hx
      rcases hx with ⟨rfl, rfl⟩ | ⟨rfl, rfl⟩ | ⟨rfl, rfl⟩ | ⟨rfl, rfl⟩ | ⟨rfl, rfl⟩ | ⟨rfl, rfl⟩ | ⟨rfl, rfl⟩ | ⟨rfl, rfl⟩ | ⟨rfl, rfl⟩ | ⟨rfl, rfl⟩
      · exact ⟨.int 997, _, PySem.W.mg_of X G y0, ⟨_, rfl⟩, fun H ex => by simp only [RepU]⟩
      · exact ⟨.int 999999999, _, PySem.W.mg_of X G y1, ⟨_, rfl⟩, fun H ex => by simp only [RepU]⟩
      · exact ⟨.int 999999, _, PySem.W.mg_of X G y2, ⟨_, rfl⟩, fun H ex => by simp only [RepU]⟩
      · exact ⟨.int 16, _, PySem.W.mg_of X G y3, ⟨_, rfl⟩, fun H ex => by simp only [RepU]⟩
      · exact ⟨.int 9, _, PySem.W.mg_of X G y4, ⟨_, rfl⟩, fun H ex => by simp only [RepU]⟩
      · exact ⟨.int 8, _, PySem.W.mg_of X G y5, ⟨_, rfl⟩, fun H ex => by simp only [RepU]⟩
      · exact ⟨.int 8, _, PySem.W.mg_of X G y6, ⟨_, rfl⟩, fun H ex => by simp only [RepU]⟩
      · exact ⟨.int 8, _, PySem.W.mg_of X G y7, ⟨_, rfl⟩, fun H ex => by simp only [RepU]⟩
      · exact ⟨.str (strS [97, 98, 99, 100, 101, 102, 103, 104, 105, 106, 107, 108, 109, 110, 111, 112, 113, 114, 115, 116, 117, 118, 119, 120, 121, 122, 48, 49, 50, 51, 52, 53, 54, 55, 56, 57]), _, PySem.W.mg_of X G y8, ⟨_, rfl⟩, fun H ex => by
          simp only [k_blocks_NAMED, RepU]
          exact ⟨rfl, by simp [sizeLine], by decide⟩⟩
      · exact ⟨.str (strS [32, 33, 34, 35, 36, 38, 39, 40, 41, 42, 43, 44, 45, 46, 47, 48, 49, 50, 51, 52, 53, 54, 55, 56, 57, 58, 59, 60, 61, 62, 63, 64, 65, 66, 67, 68, 69, 70, 71, 72, 73, 74, 75, 76, 77, 78, 79, 80, 81, 82, 83, 84, 85, 86, 87, 88, 89, 90, 91, 92, 93, 94, 95, 96, 97, 98, 99, 100, 101, 102, 103, 104, 105, 106, 107, 108, 109, 110, 111, 112, 113, 114, 115, 116, 117, 118, 119, 120, 121, 122, 123, 124, 125, 126]), _, PySem.W.mg_of X G y9, ⟨_, rfl⟩, fun H ex => by
          simp only [k_signs_SIGNS, RepU]
          exact ⟨rfl, by simp [sizeLine], by decide⟩⟩
    · exact (show ∀ p ∈ T.kdn, ∃ a es n, mg p.2 = some (.ref a) ∧ KDict K w a es n ∧ KdR K a (P.kds p.1) from fa_nil) (d, x) (lookup_mem h)
    · exact (show ∀ p ∈ T.fdn, fldName p.1 = p.2 from fa_nil) (f, x) (lookup_mem h)
    · exact (show ∀ p ∈ T.xn1, xsB p.1 = true ∧ X1 K mg ((fun k : Nat => (0 : Addr)) p.1) p.2 (xfsE p.1) from fa_nil) (k, x) (lookup_mem h)
    · exact (show ∀ p ∈ T.mth, Cls K ((fun k : Nat => (0 : Addr)) p.2.1) ∧ ∃ d fa fd ps, P.fns p.1 = some d ∧ Meth K ((fun k : Nat => (0 : Addr)) p.2.1) p.2.2 fa ∧ FnTxt T K d fa fd ps from fa_nil) (f, k, m) (lookup_mem h)
    · exact (show ∀ p ∈ T.mks, mg p.2.2 = some (.ref ((fun k : Nat => (0 : Addr)) p.2.1)) ∧ FdOk (fun k : Nat => (0 : Addr)) fldName fdcE K p.2.1 ∧ ∃ d fa fd ps, P.fns p.1 = some d ∧ Mk K ((fun k : Nat => (0 : Addr)) p.2.1) fa ∧ FnTxt T K d fa fd ps from fa_nil) (f, k, x) (lookup_mem h)
    · refine xs_of (l := T.xnm) (m := T.xn1) (k := k) (p := fun k => xfdE k = some f → xfsE k = fldName f ∧ XfC K ((fun k : Nat => (0 : Addr)) k) ∧ PySem.W.findIn K (.ref ((fun k : Nat => (0 : Addr)) k)) (fldName f) = some none) hk (fa_nil) (fa_nil) hf
    · exact (show ∀ p ∈ T.xnm, xsB p.1 = true ∧ mg p.2 = some (.ref ((fun k : Nat => (0 : Addr)) p.1)) ∧ XC K ((fun k : Nat => (0 : Addr)) p.1) from fa_nil) (k, x) (lookup_mem h)
    · exact xs_of (l := T.xnm) (m := T.xn1) (k := k) (p := fun k => ExcC K ((fun k : Nat => (0 : Addr)) k)) h (fa_nil) (fa_nil)
    · refine (show ∀ p ∈ T.cnm, ∃ (cw : V) (cv : Value), (mg p.2 = some cv ∨ (mg p.2 = none ∧ bootBuiltins p.2 = some cv)) ∧ RelV cw cv ∧ (∀ u, RelV cw u → u = cv) ∧ (∀ q ∈ T.xnm, PySem.W.exmOne K (.ref ((fun k : Nat => (0 : Addr)) q.1)) cv = some (supE q.1 p.1) ∧ PySem.W.kitOne K (.ref ((fun k : Nat => (0 : Addr)) q.1)) cv = some (supE q.1 p.1)) ∧ ∀ q ∈ T.xn1, PySem.W.exmOne K (.ref ((fun k : Nat => (0 : Addr)) q.1)) cv = some (supE q.1 p.1) ∧ PySem.W.kitOne K (.ref ((fun k : Nat => (0 : Addr)) q.1)) cv = some (supE q.1 p.1) from ?_) (j, y) (lookup_mem h) |>.elim fun cw ⟨cv, h1, h2, h3, h4, h5⟩ => ⟨cw, cv, h1, h2, h3, fun k hk => xs_of (l := T.xnm) (m := T.xn1) (k := k) (p := fun k => PySem.W.exmOne K (.ref ((fun k : Nat => (0 : Addr)) k)) cv = some (supE k j) ∧ PySem.W.kitOne K (.ref ((fun k : Nat => (0 : Addr)) k)) cv = some (supE k j)) hk h4 h5⟩
      exact fa_nil
  exact ⟨_, fun s v => .of_eq rfl, fun base _ _ => (level rfl En n 3005 _ _ _ _ rfl D21.txt).imp fun _ _ _ _ h => h _⟩
end
end LK12
section
open Mp Gp
local macro_rules | `(tactic| walk_at "ok") => `(tactic| first | exact rfl | assumption | exact ok_ints _ | exact ok_strs _ | exact ok_ints [] | (simp only [okU]; done))
local macro_rules | `(tactic| walk_at "fzs") => `(tactic| first | exact FzS.nil | ((refine FzS.u ?_); walk_at "fzs") | ((refine FzS.own ?_); walk_at "fzs") | ((refine FzS.none ?_); walk_at "fzs") | ((refine FzS.here ?_); walk_at "fzs") | ((refine FzS.map ?_); walk_at "fzs") | ((refine FzS.eq ?_); walk_at "fzs"))
local macro_rules | `(tactic| walk_at "side") => `(tactic| first
   | exact Nat.le_of_ble_eq_true rfl | exact rfl | assumption | omega
   | (simp only [id_eq, rep_len, List.length_map, List.length_append, List.length_cons, List.length_nil, sizeLine_def]; omega)
   | exact trivial | exact ⟨Nat.le_of_ble_eq_true rfl, rfl⟩ | exact ⟨rfl, rfl⟩ | exact ⟨rfl, rfl, rfl, rfl⟩ | exact mulOk_l (by assumption) | exact mulOk_r (by assumption) | exact divOk (by decide) (by decide) | exact mulOk_r (by decide) | exact mulOk_l (by decide)
   | exact ⟨by walk_at "ok", by walk_at "ok"⟩ | exact ⟨by decide, by decide, by decide⟩ | walk_at "fzs" | decide)
local macro_rules | `(tactic| walk_at "go") => `(tactic| (conv => whnf); (first
   | ((refine And.intro (by walk_at "side") ?_); walk_at "go")
   | ((refine Br.nt ?_); walk_at "go")
   | ((refine Br.tt (by assumption) ?_); walk_at "go")
   | ((refine Br.ff (by assumption) ?_); walk_at "go")
   | ((refine fun (_ : PySem.Addr) => ?_); walk_at "go")
   | ((refine Br.dec (fun hc => ?_) (fun hc => ?_)) <;> (first | exact absurd rfl hc | (exfalso; omega) | walk_at "go"))
   | ((refine optK_in (by assumption) ?_); walk_at "go")
   | ((refine ⟨_, Sub.refl _, ?_⟩); walk_at "go")
   | skip))
local macro_rules | `(tactic| walk_at "upto") => `(tactic| (conv => whnf); (first
   | ((refine And.intro (by walk_at "side") ?_); walk_at "upto")
   | ((refine Br.nt ?_); walk_at "upto")
   | ((refine fun (_ : PySem.Addr) => ?_); walk_at "upto")
   | ((refine optK_in (by assumption) ?_); walk_at "upto")
   | ((refine ⟨_, Sub.refl _, ?_⟩); walk_at "upto")
   | skip))
local macro_rules | `(tactic| walk_at "heap") => `(tactic| first | assumption | exact put_self | (refine put_at (by first | assumption | omega) ?_; walk_at "heap"))
local macro_rules | `(tactic| walk_at "hp") => `(tactic| first
   | ((refine ins_in (by walk_at "heap") ?_); walk_at "go"; walk_at "hp")
   | ((refine vw_con (by walk_at "heap") ?_); walk_at "go"; walk_at "hp")
   | skip)
namespace Gp
open Mp
noncomputable abbrev Xg := Nat → List U → Hh → Prop
noncomputable abbrev Qg := R → Hh → Prop
/-- a list handed in: as a value, its own, or lent -/
noncomputable def Lp (sv : SV) (u : U) : Prop := sv = .u u ∨ sv = .own u ∨ ∃ t, sv = .fz t u
theorem Lp.v {u : U} : Lp (.u u) u := .inl rfl
theorem Lp.o {u : U} : Lp (.own u) u := .inr (.inl rfl)
theorem Lp.f {u : U} {t : PySem.Addr} : Lp (.fz t u) u := .inr (.inr ⟨t, rfl⟩)
theorem lvl {k m : Nat} (h : k < m) : ∃ n, m = n + 1 ∧ k ≤ n := ⟨m - 1, by omega, by omega⟩
theorem ints_mem {x : U} {l : List Int} (h : x ∈ l.map U.int) : ∃ i ∈ l, x = .int i := by
  obtain ⟨i, hi, e⟩ := List.mem_map.mp h
  exact ⟨i, hi, e.symm⟩
theorem range_len {a b : Int} : (rangeI a b).length = (b - a).toNat := by simp [rangeI]
theorem range_map0 (n : Nat) : rangeI 0 (n : Int) = (List.range n).map fun (k : Nat) => U.int (k : Int) := by
  unfold rangeI
  rw [Int.sub_zero, Int.toNat_natCast]
  refine List.map_congr_left fun k _ => by rw [Int.zero_add]
theorem range_at' {a b : Int} {ys zs : List U} {x : U} (e : ys ++ x :: zs = rangeI a b) : x = .int (a + ys.length) ∧ (ys.length : Int) < b - a := by
  have h0 : ys.length < (b - a).toNat := by rw [← range_len, ← e]; simp
  have h2 : (rangeI a b)[ys.length]? = some x := by rw [← e]; simp
  unfold rangeI at h2
  rw [List.getElem?_map, List.getElem?_range h0] at h2
  exact ⟨(Option.some.inj h2).symm, by omega⟩
theorem cut_sub {α : Type} {xs : List α} {lo hi : Option Int} {x : α} (h : x ∈ cut xs lo hi) : x ∈ xs := List.mem_of_mem_drop (List.mem_of_mem_take h)
theorem cut_lenle {α : Type} (xs : List α) (lo hi : Option Int) : (cut xs lo hi).length ≤ xs.length := by
  unfold cut
  rw [List.length_take, List.length_drop]
  omega
/-- xs[i:j] for places in turn -/
theorem cut_nat {α : Type} (xs : List α) (i j : Nat) : cut xs (some (i : Int)) (some (j : Int)) = (xs.drop i).take (j - i) := by
  unfold cut
  rw [HT.sIx_nat, HT.sIx_nat]
  by_cases h : i ≤ xs.length
  · rw [Nat.min_eq_left h]
    by_cases h2 : j ≤ xs.length
    · rw [Nat.min_eq_left h2]
    · rw [Nat.min_eq_right (by omega), List.take_of_length_le (by rw [List.length_drop]; omega), List.take_of_length_le (by rw [List.length_drop]; omega)]
  · rw [Nat.min_eq_right (show xs.length ≤ i by omega), List.drop_of_length_le (Nat.le_refl _), List.drop_of_length_le (show xs.length ≤ i by omega), List.take_nil, List.take_nil]
theorem cut_len2 {α : Type} {xs : List α} {i j : Int} {a b : Nat} (hi : i = (a : Int)) (hj : j = (b : Int)) (hb : b ≤ xs.length) : (cut xs (some i) (some j)).length = b - a := by
  rw [hi, hj, cut_nat, List.length_take, List.length_drop]
  omega
/-- an item by its place -/
theorem at_ok {α : Type} {xs : List α} {i : Int} (h0 : 0 ≤ i) (h1 : i < xs.length) : ∃ x, x ∈ xs ∧ xs[i.toNat]? = some x ∧ L2.atI xs i = some x := by
  have h : i.toNat < xs.length := by omega
  refine ⟨xs[i.toNat], List.getElem_mem h, List.getElem?_eq_getElem h, ?_⟩
  have := atI_nat (List.getElem?_eq_getElem h)
  rwa [Int.toNat_of_nonneg h0] at this
theorem at_map {α β : Type} {xs : List α} {i : Int} {x : α} {f : α → β} (h : L2.atI xs i = some x) : L2.atI (xs.map f) i = some (f x) := by
  unfold L2.atI at *
  rw [List.length_map]
  cases e : L2.ixN xs.length i with
  | none => rw [e] at h; cases h
  | some j =>
    rw [e] at h
    show (xs.map f)[j]? = _
    rw [List.getElem?_map, show xs[j]? = some x from h]
    rfl
/-- [0] + script[:k] -/
theorem cells_len {ns : List Int} {k : Int} (hl : ns.length ≤ 63) : [U.int 0].length + (cut (List.map U.int ns) none (some k)).length ≤ PySem.sizeLine := by
  have := cut_lenle (List.map U.int ns) none (some k)
  rw [List.length_map] at this
  simp only [List.length_cons, List.length_nil, sizeLine_def]
  omega
theorem cells_map (ns : List Int) (k : Int) : [U.int 0] ++ cut (List.map U.int ns) none (some k) = (0 :: cut ns none (some k)).map U.int := by
  rw [cut_map]
  rfl
theorem cells_mem {ns : List Int} {k : Int} {x : U} (h : x ∈ id ([U.int 0] ++ cut (List.map U.int ns) none (some k))) : ∃ i, x = .int i := by
  rw [id_eq, cells_map] at h
  obtain ⟨i, _, e⟩ := ints_mem h
  exact ⟨i, e⟩
/-- what the numbers drawn are, as far as it matters -/
noncomputable def Drawn (k : Nat) (ns : List Int) : Prop := ns.length = k ∧ ∀ x ∈ ns, 0 ≤ x ∧ x < 2147483647
theorem Drawn.at {k : Nat} {ns : List Int} (h : Drawn k ns) {i : Int} (h0 : 0 ≤ i) (h1 : i < k) : ∃ x : Int, 0 ≤ x ∧ x < 2147483647 ∧ x ∈ ns ∧ L2.atI (ns.map U.int) i = some (.int x) := by
  obtain ⟨x, hx, _, e⟩ := at_ok (xs := ns) h0 (by rw [h.1]; exact h1)
  exact ⟨x, (h.2 x hx).1, (h.2 x hx).2, hx, at_map e⟩
theorem numbers_ok {L : List Fn} {m : Nat} (hm : 0 < m) {c : Int} {k : Nat} (hk : k ≤ 1000) {G : Hh} {X : Xg} {Q : Qg} (h : ∀ ns : List Int, Drawn k ns → Q (.tmp (.lst (ns.map U.int))) G) : callN (Pof L) m F_l_numbers [.u (.int c), .u (.int (k : Int))] G X Q := by
  obtain ⟨m, rfl, _⟩ := lvl hm
  have hlen : (rangeI 0 (k : Int)).length = k := by simp [rangeI]
  have hlen2 : (rangeI 0 ((k : Int) + 1)).length = k + 1 := by simp [rangeI] <;> omega
  walk_at "go"
  · refine for_pre (fun ys ρ G' => ∃ n x acc, ρ = [some (.u (.int c)), some (.u (.int (k : Int))), some (.own (.lst (acc.map U.int))), some (.u (.int n)), x] ∧ G' = G ∧ acc.length = ys.length ∧ ∀ x ∈ acc, 0 ≤ x ∧ x < 2147483647) ⟨_, _, [], rfl, rfl, rfl, by simp⟩ ?_ ?_
    · rintro ys x zs ρ G' K e ⟨n, x1, acc, rfl, rfl, h1, h2⟩ hK
      have hl : ys.length < k := by rw [← hlen, ← e]; simp
      walk_at "go"
      refine hK _ _ ⟨_, _, acc ++ [n % 5040], by simp only [List.map_append, List.map_cons, List.map_nil]; rfl, rfl, by simp [h1], fun y hy => ?_⟩
      rcases List.mem_append.mp hy with hy | hy
      · exact h2 y hy
      · simp at hy; omega
    · rintro ρ G' ⟨n, x1, acc, rfl, rfl, h1, h2⟩
      walk_at "go"
      exact h acc ⟨by rw [h1, hlen], h2⟩
  · refine for_pre (fun ys ρ G' => ∃ n x acc, ρ = [some (.u (.int c)), some (.u (.int (k : Int))), some (.own (.lst (acc.map U.int))), some (.u (.int n)), x] ∧ G' = G ∧ acc.length = ys.length ∧ ∀ x ∈ acc, 0 ≤ x ∧ x < 2147483647) ⟨_, _, [], rfl, rfl, rfl, by simp⟩ ?_ ?_
    · rintro ys x zs ρ G' K e ⟨n, x1, acc, rfl, rfl, h1, h2⟩ hK
      obtain ⟨rfl, hl⟩ := range_at' e
      generalize (0 : Int) + (ys.length : Int) = i
      walk_at "go"
      refine hK _ _ ⟨_, _, acc ++ [(n + i + 1) * 48271 % 2147483647 * 69621 % 2147483629], by simp only [List.map_append, List.map_cons, List.map_nil]; rfl, rfl, by simp [h1], fun y hy => ?_⟩
      rcases List.mem_append.mp hy with hy | hy
      · exact h2 y hy
      · simp at hy; omega
    · rintro ρ G' ⟨n, x1, acc, rfl, rfl, h1, h2⟩
      walk_at "go"
      have := h (acc.drop 1) ⟨by rw [List.length_drop, h1, hlen2]; omega, fun x hx => h2 x (List.mem_of_mem_drop hx)⟩
      rw [cut_map, show (1 : Int) = ((1 : Nat) : Int) from rfl, cut_from]
      exact this
noncomputable def sg : List Nat := [32, 33, 34, 35, 36, 38, 39, 40, 41, 42, 43, 44, 45, 46, 47, 48, 49, 50, 51, 52, 53, 54, 55, 56, 57, 58, 59, 60, 61, 62, 63, 64, 65, 66, 67, 68, 69, 70, 71, 72, 73, 74, 75, 76, 77, 78, 79, 80, 81, 82, 83, 84, 85, 86, 87, 88, 89, 90, 91, 92, 93, 94, 95, 96, 97, 98, 99, 100, 101, 102, 103, 104, 105, 106, 107, 108, 109, 110, 111, 112, 113, 114, 115, 116, 117, 118, 119, 120, 121, 122, 123, 124, 125, 126]
/-- a sign's number -/
noncomputable def num (c : Nat) : Nat := (idxOfS c sg 0).getD 0
theorem signs_ok {L : List Fn} {m : Nat} (hm : 0 < m) {G : Hh} {X : Xg} {Q : Qg} (h : Q (.u (.str sg)) G) : callN (Pof L) m F_l_signs [] G X Q := by
  obtain ⟨m, rfl, _⟩ := lvl hm
  walk_at "go"
  exact h
theorem all_true {α : Type} {f : α → Bool} {xs : List α} : (xs.map f).all id = xs.all f := by
  rw [List.all_map]
  rfl
theorem allBl_mapf {α : Type} (f : α → Bool) (xs : List α) : allBl (xs.map fun x => U.bl (f x)) = some (xs.map f) := by
  have := allBl_map (xs.map f)
  rwa [List.map_map] at this
noncomputable def isText (u : U) (most : Int) : Bool := match u with
  | .str s => decide ((s.length : Int) ≤ most) && s.all fun c => decide (c ∈ sg)
  | _ => false
noncomputable def isNumber (u : U) : Bool := match u with
  | .int i => decide (0 ≤ i) && decide (i ≤ 999999999)
  | _ => false
mutual
/-- plain data, at most n deep, of sizes that may be -/
noncomputable def plU : Nat → U → Bool
  | _, .non => true
  | _, .bl _ => true
  | _, .int _ => true
  | _, .str s => decide (s.length ≤ 1000000)
  | n + 1, .tup xs => decide (xs.length ≤ 1000000) && plUs n xs
  | n + 1, .lst xs => decide (xs.length ≤ 1000000) && plUs n xs
  | _, _ => false
noncomputable def plUs : Nat → List U → Bool
  | _, [] => true
  | n, x :: xs => plU n x && plUs n xs
end
mutual
theorem plU_ok : ∀ (n : Nat) (u : U), plU n u = true → okU n u = true
  | _, .non, _ => by simp [okU]
  | _, .bl _, _ => by simp [okU]
  | _, .int _, _ => by simp [okU]
  | _, .str _, _ => by simp [okU]
  | n + 1, .tup xs, h => by
    simp only [plU, Bool.and_eq_true] at h
    simp only [okU]
    exact plUs_ok n xs h.2
  | n + 1, .lst xs, h => by
    simp only [plU, Bool.and_eq_true] at h
    simp only [okU]
    exact plUs_ok n xs h.2
  | 0, .tup _, h => by simp [plU] at h
  | 0, .lst _, h => by simp [plU] at h
  | _, .dic _ _, h => by simp [plU] at h
  | _, .dit _ _, h => by simp [plU] at h
  | _, .ref _, h => by simp [plU] at h
theorem plUs_ok : ∀ (n : Nat) (us : List U), plUs n us = true → okUs n us = true
  | _, [], _ => by simp [okUs]
  | n, u :: us, h => by
    simp only [plUs, Bool.and_eq_true] at h
    simp only [okUs, Bool.and_eq_true]
    exact ⟨plU_ok n u h.1, plUs_ok n us h.2⟩
end
mutual
theorem plU_mono : ∀ (n m : Nat) (u : U), n ≤ m → plU n u = true → plU m u = true
  | n, m, .non, _, _ => by simp [plU]
  | n, m, .bl _, _, _ => by simp [plU]
  | n, m, .int _, _, _ => by simp [plU]
  | n, m, .str _, _, h => by simpa [plU] using h
  | n + 1, m + 1, .tup xs, l, h => by
    simp only [plU, Bool.and_eq_true] at h ⊢
    exact ⟨h.1, plUs_mono n m xs (by omega) h.2⟩
  | n + 1, m + 1, .lst xs, l, h => by
    simp only [plU, Bool.and_eq_true] at h ⊢
    exact ⟨h.1, plUs_mono n m xs (by omega) h.2⟩
  | n + 1, 0, .tup _, l, h => by omega
  | n + 1, 0, .lst _, l, h => by omega
  | 0, m, .tup _, _, h => by simp [plU] at h
  | 0, m, .lst _, _, h => by simp [plU] at h
  | _, m, .dic _ _, _, h => by simp [plU] at h
  | _, m, .dit _ _, _, h => by simp [plU] at h
  | _, m, .ref _, _, h => by simp [plU] at h
theorem plUs_mono : ∀ (n m : Nat) (us : List U), n ≤ m → plUs n us = true → plUs m us = true
  | _, _, [], _, _ => by simp [plUs]
  | n, m, u :: us, l, h => by
    simp only [plUs, Bool.and_eq_true] at h ⊢
    exact ⟨plU_mono n m u l h.1, plUs_mono n m us l h.2⟩
end
theorem plUs_iff {n : Nat} : ∀ {us : List U}, plUs n us = true ↔ ∀ u ∈ us, plU n u = true
  | [] => by simp [plUs]
  | u :: us => by simp [plUs, plUs_iff (us := us)]
theorem plU_str {n : Nat} {s : List Nat} (h : plU n (.str s) = true) : s.length ≤ 1000000 := by simpa [plU] using h
theorem plU_tup {n : Nat} {xs : List U} (h : plU (n + 1) (.tup xs) = true) : xs.length ≤ 1000000 ∧ plUs n xs = true := by
  simpa [plU] using h
theorem plU_lst {n : Nat} {xs : List U} (h : plU (n + 1) (.lst xs) = true) : xs.length ≤ 1000000 ∧ plUs n xs = true := by
  simpa [plU] using h
theorem plU_tup' {n : Nat} {xs : List U} (h : plU n (.tup xs) = true) : ∃ k, n = k + 1 ∧ xs.length ≤ 1000000 ∧ plUs k xs = true := by
  cases n with
  | zero => simp [plU] at h
  | succ k => exact ⟨k, rfl, by simpa [plU] using h⟩
mutual
theorem eq_self : ∀ (n : Nat) (u : U), okU n u = true → eqU u u = true
  | _, .non, _ => by simp [eqU]
  | _, .bl _, _ => by simp [eqU]
  | _, .int _, _ => by simp [eqU]
  | _, .str _, _ => by simp [eqU]
  | n + 1, .tup xs, h => by
    simp only [okU] at h
    simp only [eqU]
    exact eqs_self n xs h
  | n + 1, .lst xs, h => by
    simp only [okU] at h
    simp only [eqU]
    exact eqs_self n xs h
  | 0, .tup _, h => by simp [okU] at h
  | 0, .lst _, h => by simp [okU] at h
  | _, .dic _ _, h => by simp [okU] at h
  | _, .dit _ _, h => by simp [okU] at h
  | _, .ref _, h => by simp [okU] at h
theorem eqs_self : ∀ (n : Nat) (us : List U), okUs n us = true → eqUs us us = true
  | _, [], _ => by simp [eqUs]
  | n, u :: us, h => by
    simp only [okUs, Bool.and_eq_true] at h
    simp only [eqUs, Bool.and_eq_true]
    exact ⟨eq_self n u h.1, eqs_self n us h.2⟩
end
theorem is_text_ok {L : List Fn} {m n : Nat} (hm : 0 < m) {u : U} {most : Int} (hu : plU n u = true) {G : Hh} {X : Xg} {Q : Qg} (h : Q (.u (.bl (isText u most))) G) : callN (Pof L) m F_signs_is_text [.u u, .u (.int most)] G X Q := by
  obtain ⟨m, rfl, _⟩ := lvl hm
  cases u
  case ref a => simp [plU] at hu
  case dit => simp [plU] at hu
  all_goals walk_at "go"
  all_goals first | exact h | skip
  · rename_i s hc
    have hl := plU_str hu
    refine ⟨by rw [sizeLine_def]; simp; omega, ?_⟩
    walk_at "go"
    refine lc_map (f := fun c => U.str [c]) (fun c => some (.bl (decide (c ∈ sg)))) (fun c hc N hN => ?_) ?_
    · walk_at "go"
      exact hN
    · rw [List.nil_append, filterMap_some]
      walk_at "go"
      refine optK_in (allBl_mapf _ _) ?_
      walk_at "go"
      have e : isText (.str s) most = List.all (s.map fun c => decide (c ∈ sg)) id := by
        rw [all_true]
        simp [isText, hc]
      rw [e] at h
      exact h
  · rename_i s hc
    have e : isText (.str s) most = false := by simp [isText, hc]
    rw [e] at h
    exact h
theorem is_number_ok {L : List Fn} {m n : Nat} (hm : 0 < m) {u : U} (hu : plU n u = true) {G : Hh} {X : Xg} {Q : Qg} (h : Q (.u (.bl (isNumber u))) G) : callN (Pof L) m F_things_is_number [.u u] G X Q := by
  obtain ⟨m, rfl, _⟩ := lvl hm
  cases u
  case ref a => simp [plU] at hu
  case dit => simp [plU] at hu
  all_goals walk_at "go"
  all_goals first | exact h | skip
  · rename_i i h0
    simp only [isNumber, h0, decide_true, Bool.true_and] at h
    exact h
  · rename_i i h0
    simp only [isNumber, h0, decide_false, Bool.false_and] at h
    exact h
/-- comprehensions over items that are no map -/
theorem lc_mem {own : List Nat} {ck : Rho → Hh → Prop} {turn : U → Rho → Hh → (Option U → Rho → Hh → Prop) → Prop} {Q : List U → Rho → Hh → Prop} {ρ : Rho} {G : Hh} (g : U → Option U) {us acc : List U}
    (hs : ∀ x ∈ us, ∀ N : Option U → Rho → Hh → Prop, N (g x) ρ G → turn x ρ G (fun o ρ' G' => wipeK ρ' own fun ρ2 => ck ρ2 G' ∧ N o ρ2 G')) (h : Q (acc ++ us.filterMap g) ρ G) : lcI own ck turn us acc ρ G Q := by
  have := lc_map (own := own) (ck := ck) (turn := turn) (Q := Q) (f := id) (ρ := ρ) (G := G) g (xs := us) (acc := acc) hs h
  rwa [List.map_id] at this
theorem plU_eq {n : Nat} {u : U} (h : plU n u = true) (hn : n ≤ 40) : okU deepU u = true ∧ eqU u u = true := by
  have h1 := plU_ok _ _ (plU_mono n 40 u hn h)
  exact ⟨h1, eq_self _ _ h1⟩
theorem eq_nil {xs : List U} : eqU (.lst xs) (.lst []) = xs.isEmpty := by
  cases xs <;> simp [eqU, eqUs]
end Gp
namespace Gp
open Mp
mutual
noncomputable def thg : Nat → U → Bool
  | d + 1, .int i => decide (0 ≤ i) && decide (i ≤ 999999999)
  | d + 1, .str s => decide (s.length ≤ 400) && s.all fun c => decide (c ∈ sg)
  | d + 1, .tup xs => decide (xs.length ≤ 100) && thgs d xs
  | _, _ => false
noncomputable def thgs : Nat → List U → Bool
  | _, [] => true
  | d, x :: xs => thg d x && thgs d xs
end
theorem thgs_all {d : Nat} : ∀ {xs : List U}, thgs d xs = xs.all (thg d)
  | [] => by simp [thgs]
  | x :: xs => by simp [thgs, thgs_all (xs := xs)]
theorem thg_zero {u : U} : thg 0 u = false := by cases u <;> simp [thg]
/-- a copy of plain data -/
theorem copied_ok {L : List Fn} : ∀ (n : Nat) {m : Nat} (_ : n < m) {u : U} (_ : plU n u = true) {G : Hh} {X : Xg} {Q : Qg} (_ : ∀ r, (r = .u u ∨ (r = .tmp u ∧ ∃ xs, u = .lst xs)) → Q r G), callN (Pof L) m F_l_copied [.u u] G X Q := by
  intro n
  induction n with
  | zero =>
    intro m hm u hu G X Q h
    obtain ⟨m, rfl, hm2⟩ := lvl hm
    cases u
    case ref a => simp [plU] at hu
    case dit => simp [plU] at hu
    case tup xs => simp [plU] at hu
    case lst xs => simp [plU] at hu
    all_goals
      walk_at "go"
      exact h _ (.inl rfl)
  | succ n ih =>
    intro m hm u hu G X Q h
    obtain ⟨m, rfl, hm2⟩ := lvl hm
    have one : ∀ xs : List U, (xs.filterMap fun x => some x) = xs := fun xs => by
      induction xs with
      | nil => rfl
      | cons a xs ih => simp
    cases u
    case ref a => simp [plU] at hu
    case dit => simp [plU] at hu
    case tup xs =>
      obtain ⟨hxl, hxs⟩ := plU_tup hu
      have hsz : (id xs).length ≤ PySem.sizeLine := by rw [sizeLine_def]; simp; omega
      walk_at "go"
      refine lc_mem (fun x => some x) (fun x hx N hN => ?_) ?_
      · walk_at "go"
        refine ih (by omega) (plUs_iff.mp hxs x hx) fun r hr => ?_
        rcases hr with rfl | ⟨rfl, _⟩
        · walk_at "go"
          exact hN
        · walk_at "go"
          exact hN
      · rw [List.nil_append, one]
        walk_at "go"
        exact h _ (.inl rfl)
    case lst xs =>
      obtain ⟨hxl, hxs⟩ := plU_lst hu
      have hsz : (id xs).length ≤ PySem.sizeLine := by rw [sizeLine_def]; simp; omega
      walk_at "go"
      refine lc_mem (fun x => some x) (fun x hx N hN => ?_) ?_
      · walk_at "go"
        refine ih (by omega) (plUs_iff.mp hxs x hx) fun r hr => ?_
        rcases hr with rfl | ⟨rfl, _⟩
        · walk_at "go"
          exact hN
        · walk_at "go"
          exact hN
      · rw [List.nil_append, one]
        walk_at "go"
        exact h _ (.inr ⟨rfl, _, rfl⟩)
    all_goals
      walk_at "go"
      exact h _ (.inl rfl)
end Gp
namespace Gp
open Mp
noncomputable def named : List Nat := [97, 98, 99, 100, 101, 102, 103, 104, 105, 106, 107, 108, 109, 110, 111, 112, 113, 114, 115, 116, 117, 118, 119, 120, 121, 122, 48, 49, 50, 51, 52, 53, 54, 55, 56, 57]
noncomputable def isName : U → Bool
  | .str s => (decide (1 ≤ s.length) && decide (s.length ≤ 8)) && s.all fun c => decide (c ∈ named)
  | _ => false
noncomputable def isTag : U → Bool
  | .tup [a, b, c] => (isNumber a && (isNumber b && isNumber c)) && (match a, c with
    | .int i, .int k => (decide (1 ≤ i) && decide (i ≤ 999999)) && decide (k < 997)
    | _, _ => false)
  | _ => false
theorem is_name_ok {L : List Fn} {m n : Nat} (hm : 0 < m) {u : U} (hu : plU n u = true) {G : Hh} {X : Xg} {Q : Qg} (h : Q (.u (.bl (isName u))) G) : callN (Pof L) m F_blocks_is_name [.u u] G X Q := by
  obtain ⟨m, rfl, _⟩ := lvl hm
  cases u
  case ref a => simp [plU] at hu
  case dit => simp [plU] at hu
  case str s =>
    have hl := plU_str hu
    have hsz : (id (s.map fun c => U.str [c])).length ≤ PySem.sizeLine := by rw [sizeLine_def]; simp; omega
    simp only [isName] at h
    walk_at "go"
    · rename_i h1 h2
      rw [decide_eq_true (show 1 ≤ s.length by omega), decide_eq_true (show s.length ≤ 8 by omega), Bool.true_and, Bool.true_and] at h
      refine lc_map (f := fun c => U.str [c]) (fun c => some (.bl (decide (c ∈ named)))) (fun c hc N hN => ?_) ?_
      · walk_at "go"
        exact hN
      · rw [List.nil_append, filterMap_some]
        walk_at "go"
        refine optK_in (allBl_mapf _ _) ?_
        walk_at "go"
        rw [all_true]
        exact h
    · rename_i h1 h2
      rw [decide_eq_false (show ¬ s.length ≤ 8 by omega), Bool.and_false, Bool.false_and] at h
      exact h
    · rename_i h1
      rw [decide_eq_false (show ¬ 1 ≤ s.length by omega), Bool.false_and, Bool.false_and] at h
      exact h
  all_goals
    walk_at "go"
    exact h
theorem isNumber_int {u : U} (h : isNumber u = true) : ∃ i : Int, u = .int i ∧ 0 ≤ i ∧ i ≤ 999999999 := by
  cases u <;> simp only [isNumber, Bool.and_eq_true, decide_eq_true_eq, reduceCtorEq] at h
  exact ⟨_, rfl, h.1, h.2⟩
theorem isTag_len {xs : List U} (h : xs.length ≠ 3) : isTag (.tup xs) = false := by
  match xs, h with
  | [], _ => rfl
  | [_], _ => rfl
  | [_, _], _ => rfl
  | [_, _, _], h => exact absurd rfl h
  | _ :: _ :: _ :: _ :: _, _ => rfl
theorem is_tag_ok {L : List Fn} {m n : Nat} (hm : 1 < m) {u : U} (hu : plU n u = true) {G : Hh} {X : Xg} {Q : Qg} (h : Q (.u (.bl (isTag u))) G) : callN (Pof L) m F_blocks_is_tag [.u u] G X Q := by
  obtain ⟨m, rfl, _⟩ := lvl hm
  cases u
  case ref a => simp [plU] at hu
  case dit => simp [plU] at hu
  case tup xs =>
    obtain ⟨k, rfl, hl, hxs⟩ := plU_tup' hu
    have hsz : (id xs).length ≤ PySem.sizeLine := by rw [sizeLine_def]; simp; omega
    by_cases h3 : xs.length = 3
    · match xs, h3 with
      | [a, b, c], _ =>
        simp only [plUs, Bool.and_eq_true, and_true] at hxs
        walk_at "go"
        refine lc_mem (fun x => some (.bl (isNumber x))) (fun x hx N hN => ?_) ?_
        · walk_at "go"
          refine is_number_ok (n := k) (by omega) (by
            rcases List.mem_cons.mp hx with rfl | hx
            · exact hxs.1
            rcases List.mem_cons.mp hx with rfl | hx
            · exact hxs.2.1
            rcases List.mem_cons.mp hx with rfl | hx
            · exact hxs.2.2
            · cases hx) ?_
          walk_at "go"
          exact hN
        · rw [List.nil_append, filterMap_some]
          walk_at "go"
          have e : ((fun x => isNumber a :: x) ((fun x => isNumber b :: x) ((fun x => isNumber c :: x) []))).all id = (isNumber a && (isNumber b && isNumber c)) := by simp
          rw [e]
          simp only [isTag] at h
          refine Br.any (fun h1 => ?_) (fun h1 => ?_)
          · rw [h1, Bool.true_and] at h
            simp only [Bool.and_eq_true] at h1
            obtain ⟨i, rfl, hi0, hi1⟩ := isNumber_int h1.1
            obtain ⟨j, rfl, hj0, hj1⟩ := isNumber_int h1.2.2
            simp only at h
            walk_at "go"
            all_goals
              refine Eq.mp (congrArg (fun b => Q (R.u (U.bl b)) G) (?_ : (decide (1 ≤ i) && decide (i ≤ 999999) && decide (j < 997)) = _)) h
              simp [*]
          · rw [h1, Bool.false_and] at h
            walk_at "go"
            exact h
    · rw [isTag_len h3] at h
      walk_at "go"
      exact h
  all_goals
    walk_at "go"
    exact h
noncomputable def wholeB (u : U) (a b : Int) : Bool := match u with
  | .int i => decide (a ≤ i) && decide (i ≤ b)
  | _ => false
theorem whole_from_ok {L : List Fn} {m n : Nat} (hm : 0 < m) {u : U} {a b : Int} (hu : plU n u = true) {G : Hh} {X : Xg} {Q : Qg} (h : Q (.u (.bl (wholeB u a b))) G) : callN (Pof L) m F_l_whole_from [.u u, .u (.int a), .u (.int b)] G X Q := by
  obtain ⟨m, rfl, _⟩ := lvl hm
  cases u
  case ref a => simp [plU] at hu
  case dit => simp [plU] at hu
  case int i =>
    simp only [wholeB] at h
    walk_at "go"
    all_goals
      refine Eq.mp (congrArg (fun b => Q (R.u (U.bl b)) G) (?_ : (decide (a ≤ i) && decide (i ≤ b)) = _)) h
      simp [*]
  all_goals
    walk_at "go"
    exact h
theorem lname_ok {L : List Fn} {m n : Nat} (hm : 0 < m) {u : U} (hu : plU n u = true) (hn : n ≤ 40) {G : Hh} {X : Xg} {Q : Qg} (h : Q (.u (.bl (isName u))) G) : callN (Pof L) m F_l_is_name [.u u] G X Q := by
  obtain ⟨m, rfl, _⟩ := lvl hm
  cases u
  case ref a => simp [plU] at hu
  case dit => simp [plU] at hu
  case str s =>
    have hl := plU_str hu
    have hsz : (id (s.map fun c => U.str [c])).length ≤ PySem.sizeLine := by rw [sizeLine_def]; simp; omega
    simp only [isName] at h
    walk_at "go"
    · rename_i h1
      rw [decide_eq_false (show ¬ 1 ≤ s.length by omega), Bool.false_and, Bool.false_and] at h
      exact h
    · rename_i h1 h2
      rw [decide_eq_false (show ¬ s.length ≤ 8 by omega), Bool.and_false, Bool.false_and] at h
      exact h
    · rename_i h1 h2
      rw [decide_eq_true (show 1 ≤ s.length by omega), decide_eq_true (show s.length ≤ 8 by omega), Bool.true_and, Bool.true_and] at h
      refine lc_map (f := fun c => U.str [c]) (fun c => if c ∈ named then none else some (.str [c])) (fun c hc N hN => ?_) ?_
      · by_cases hcs : c ∈ named
        · rw [if_pos hcs] at hN
          walk_at "go"
          · exact hN
          · rename_i z
            exact absurd hcs z
        · rw [if_neg hcs] at hN
          walk_at "go"
          · rename_i z
            exact absurd z hcs
          · exact hN
      · have okk : okU deepU (.lst (s.filterMap fun c => if c ∈ named then none else some (U.str [c]))) = true := by
          show okUs 39 _ = true
          clear h hsz h1 h2
          induction s with
          | nil => rfl
          | cons c s ih2 =>
            rw [List.filterMap_cons]
            split
            · exact ih2 (by simp [plU] at hu ⊢; omega) (by simp at hl; omega)
            · rename_i y hy
              split at hy
              · cases hy
              · cases hy
                simp only [okUs, okU, Bool.true_and]
                exact ih2 (by simp [plU] at hu ⊢; omega) (by simp at hl; omega)
        have e : (s.filterMap fun c => if c ∈ named then none else some (U.str [c])).isEmpty = s.all fun c => decide (c ∈ named) := by
          clear h hsz h1 h2 okk hu hl
          induction s with
          | nil => rfl
          | cons c s ih2 =>
            rw [List.filterMap_cons, List.all_cons, ← ih2]
            by_cases hcs : c ∈ named <;> simp [hcs]
        rw [← e, ← eq_nil] at h
        walk_at "go"
        exact h
  all_goals
    walk_at "go"
    exact h
end Gp
namespace Gp
open Mp
/-- a comprehension with turns that are known by a law of what is gathered -/
theorem lc_inv {own : List Nat} {ck : Rho → Hh → Prop} {turn : U → Rho → Hh → (Option U → Rho → Hh → Prop) → Prop} {Q : List U → Rho → Hh → Prop} {ρ : Rho} {G : Hh} {us : List U} (I : List U → List U → Prop) (h0 : I [] [])
    (hs : ∀ ys x zs acc, ys ++ x :: zs = us → I ys acc → ∀ N : Option U → Rho → Hh → Prop, (∀ o, I (ys ++ [x]) (addO acc o) → N o ρ G) → turn x ρ G (fun o ρ' G' => wipeK ρ' own fun ρ2 => ck ρ2 G' ∧ N o ρ2 G'))
    (h : ∀ acc, I us acc → Q acc ρ G) : lcI own ck turn us [] ρ G Q := by
  suffices key : ∀ (ys zs acc : List U), I ys acc → ys ++ zs = us → lcI own ck turn zs acc ρ G Q from key [] us [] h0 rfl
  intro ys zs
  induction zs generalizing ys with
  | nil =>
    intro acc hI e
    rw [lcI_nil]
    exact h acc (by rw [List.append_nil] at e; rw [← e]; exact hI)
  | cons x zs ih =>
    intro acc hI e
    rw [lcI_cons]
    exact hs ys x zs acc e hI _ fun o ho => ih (ys ++ [x]) _ ho (by simpa using e)
/-- both parts by their greatest common divisor -/
noncomputable def red (p : Int × Int) : Int × Int := (p.1 / (Int.gcd p.1 p.2 : Int), p.2 / (Int.gcd p.1 p.2 : Int))
/-- p in lowest terms is the fraction q -/
noncomputable def Red (p q : Int × Int) : Prop := 0 < p.2 ∧ 0 < q.2 ∧ p.1 * q.2 = q.1 * p.2 ∧ Int.gcd p.1 p.2 = 1
theorem red_ok {p : Int × Int} (h : 0 < p.2) : Red (red p) p := by
  obtain ⟨a, b⟩ := p
  have hg : 0 < Int.gcd a b := Int.gcd_pos_of_ne_zero_right a (by simp at h; omega)
  obtain ⟨x, hx⟩ := Int.gcd_dvd_left (a := a) (b := b)
  obtain ⟨y, hy⟩ := Int.gcd_dvd_right (a := a) (b := b)
  have hg0 : ((Int.gcd a b : Nat) : Int) ≠ 0 := by omega
  have hgp : (0 : Int) < ((Int.gcd a b : Nat) : Int) := by omega
  simp only at h
  simp only [red, Red]
  have h1 := Int.gcd_mul_left (Int.gcd a b : Int) x y
  rw [← hx, ← hy] at h1
  simp only [Int.natAbs_natCast] at h1
  have h2 : Int.gcd x y = 1 := by
    have : Int.gcd a b * 1 = Int.gcd a b * Int.gcd x y := by omega
    exact (Nat.eq_of_mul_eq_mul_left hg this).symm
  generalize (Int.gcd a b : Int) = g at *
  subst hx
  subst hy
  rw [Int.mul_ediv_cancel_left _ hg0, Int.mul_ediv_cancel_left _ hg0]
  refine ⟨?_, h, ?_, h2⟩
  · exact Int.pos_of_mul_pos_left (by rw [Int.mul_comm]; exact h) hgp
  · rw [Int.mul_left_comm, Int.mul_assoc]
/-- the sum -/
noncomputable def addP (p q : Int × Int) : Int × Int := (p.1 * q.2 + q.1 * p.2, p.2 * q.2)
theorem Red.add {p q p2 q2 : Int × Int} (h : Red p q) (k : Red p2 q2) : Red (red (addP p p2)) (addP q q2) := by
  obtain ⟨a, b⟩ := p
  obtain ⟨c, d⟩ := q
  obtain ⟨a2, b2⟩ := p2
  obtain ⟨c2, d2⟩ := q2
  obtain ⟨h1, h2, h3, h4⟩ := h
  obtain ⟨k1, k2, k3, k4⟩ := k
  simp only [addP] at *
  have hb : 0 < b * b2 := Int.mul_pos h1 k1
  have hd : 0 < d * d2 := Int.mul_pos h2 k2
  obtain ⟨r1, r2, r3, r4⟩ := red_ok (p := (a * b2 + a2 * b, b * b2)) hb
  generalize red (a * b2 + a2 * b, b * b2) = r at *
  obtain ⟨x, y⟩ := r
  simp only at *
  refine ⟨r1, hd, ?_, r4⟩
  have e : (a * b2 + a2 * b) * (d * d2) = (c * d2 + c2 * d) * (b * b2) := by
    calc (a * b2 + a2 * b) * (d * d2) = (a * d) * (b2 * d2) + (a2 * d2) * (b * d) := by
          simp only [Int.add_mul, Int.mul_add, Int.mul_assoc, Int.mul_comm, Int.mul_left_comm]
      _ = (c * b) * (b2 * d2) + (c2 * b2) * (b * d) := by rw [h3, k3]
      _ = (c * d2 + c2 * d) * (b * b2) := by
          simp only [Int.add_mul, Int.mul_add, Int.mul_assoc, Int.mul_comm, Int.mul_left_comm]
  have : (b * b2) * (x * (d * d2)) = (b * b2) * ((c * d2 + c2 * d) * y) := by
    calc (b * b2) * (x * (d * d2)) = (x * (b * b2)) * (d * d2) := by
          simp only [Int.mul_assoc, Int.mul_comm, Int.mul_left_comm]
      _ = ((a * b2 + a2 * b) * y) * (d * d2) := by rw [r3]
      _ = ((a * b2 + a2 * b) * (d * d2)) * y := by
          rw [Int.mul_right_comm]
      _ = ((c * d2 + c2 * d) * (b * b2)) * y := by rw [e]
      _ = (b * b2) * ((c * d2 + c2 * d) * y) := by
          rw [Int.mul_comm (c * d2 + c2 * d), Int.mul_assoc]
  exact Int.eq_of_mul_eq_mul_left (by omega) this
/-- not too wide -/
noncomputable def Nrw (i : Int) : Prop := i.natAbs < 2 ^ 3000
theorem Nrw.mul {i j : Int} (h : Nrw i) (k : Nrw j) : MulOk i j := .inr (L2.wide_mul h k (by decide) (by decide) (by decide))
end Gp
namespace Gp
open Mp
end Gp
namespace Gp
open Mp
noncomputable def txt : List Int → Option (List Nat)
  | [] => some []
  | w :: ws => if 0 ≤ w ∧ w < 94 then (txt ws).map (sg.getD w.toNat 0 :: ·) else none
noncomputable def rds (f : List Int → Option (U × List Int)) : Nat → List Int → Option (List U × List Int)
  | 0, r => some ([], r)
  | n + 1, r => match f r with
    | some (u, r') => (rds f n r').map fun p => (u :: p.1, p.2)
    | none => none
/-- the thing that words tell, and what stands behind it -/
noncomputable def rd : Nat → List Int → Option (U × List Int)
  | 0, _ => none
  | d + 1, l => match l with
    | k :: n :: r =>
      if k = 0 ∧ 0 ≤ n ∧ n ≤ 999999999 then some (.int n, r)
      else if k = 1 ∧ 0 ≤ n ∧ n ≤ 400 ∧ n ≤ r.length then (txt (r.take n.toNat)).map fun s => (.str s, r.drop n.toNat)
      else if k = 2 ∧ 0 ≤ n ∧ n ≤ 100 then (rds (rd d) n.toNat r).map fun p => (.tup p.1, p.2)
      else none
    | _ => none
/-- what stands behind is an end -/
noncomputable def Suf (l r : List Int) : Prop := ∃ k, k ≤ l.length ∧ r = l.drop k
theorem Suf.refl (l : List Int) : Suf l l := ⟨0, Nat.zero_le _, rfl⟩
theorem Suf.trans {a b c : List Int} (h : Suf a b) (k : Suf b c) : Suf a c := by
  obtain ⟨i, hi, rfl⟩ := h
  obtain ⟨j, hj, rfl⟩ := k
  rw [List.length_drop] at hj
  exact ⟨i + j, by omega, by rw [List.drop_drop]⟩
end Gp
namespace Gp
open Mp
theorem rng_nat {n : Nat} : rangeI 0 (n : Int) = (List.range n).map fun (k : Nat) => U.int (k : Int) := range_map0 n
theorem allStr_one {α : Type} (f : α → Nat) : ∀ xs : List α, allStr (xs.map fun k => U.str [f k]) = some (xs.map fun k => [f k])
  | [] => rfl
  | x :: xs => by simp [allStr, allStr_one f xs]
theorem join_one {α : Type} (f : α → Nat) : ∀ xs : List α, joinS [] (xs.map fun k => [f k]) = xs.map f
  | [] => rfl
  | [x] => rfl
  | x :: y :: xs => by
    have := join_one f (y :: xs)
    simp only [List.map_cons] at this ⊢
    rw [joinS, this]
    rfl
theorem sum_one {α : Type} (f : α → Nat) : ∀ xs : List α, ((xs.map fun k => [f k]).map List.length).sum = xs.length
  | [] => rfl
  | x :: xs => by
    have := sum_one f xs
    simp only [List.map_cons, List.sum_cons, List.length_cons, List.length_nil, this]
    omega
end Gp
namespace Gp
open Mp
open PySem (Addr)
section
variable {κ α : Type} [DecidableEq κ]
noncomputable def kset (d : List (κ × α)) (k : κ) (v : α) : List (κ × α) := if d.any (fun p => decide (p.1 = k)) then d.map (fun p => if p.1 = k then (p.1, v) else p) else d ++ [(k, v)]
noncomputable def kget : List (κ × α) → κ → Option α
  | [], _ => none
  | p :: d, k => if p.1 = k then some p.2 else kget d k
theorem kset_len (d : List (κ × α)) (k : κ) (v : α) : (kset d k v).length ≤ d.length + 1 := by
  unfold kset
  split <;> simp
theorem kset_mem {d : List (κ × α)} {k : κ} {v : α} {p : κ × α} (h : p ∈ kset d k v) : p = (k, v) ∨ p ∈ d := by
  unfold kset at h
  split at h
  · obtain ⟨q, hq, rfl⟩ := List.mem_map.mp h
    split
    · rename_i e
      left
      rw [e]
    · exact .inr hq
  · rcases List.mem_append.mp h with h | h
    · exact .inr h
    · left
      simpa using h
theorem kget_mem {k : κ} {v : α} : ∀ {d : List (κ × α)}, kget d k = some v → (k, v) ∈ d
  | [], h => by cases h
  | p :: d, h => by
    rw [kget] at h
    split at h
    · rename_i e
      cases h
      rw [← e]
      exact List.mem_cons_self ..
    · exact List.mem_cons_of_mem _ (kget_mem h)
/-- of two keys -/
noncomputable def KeyF (kf : κ → U) : Prop := ∀ a b, eqU (kf a) (kf b) = decide (a = b)
noncomputable def dks (kf : κ → U) (d : List (κ × α)) : List U := d.map fun p => kf p.1
noncomputable def dvs (vf : α → U) (d : List (κ × α)) : List U := d.map fun p => vf p.2
noncomputable def dU (kf : κ → U) (vf : α → U) (d : List (κ × α)) : U := .dic (dks kf d) (dvs vf d)
theorem KeyF.eq {kf : κ → U} (hk : KeyF kf) (a b : κ) : eqU (kf a) (kf b) = decide (a = b) := hk a b
theorem dks_len (kf : κ → U) (d : List (κ × α)) : (dks kf d).length = d.length := List.length_map ..
theorem has_dks {kf : κ → U} (hk : KeyF kf) (k : κ) : ∀ d : List (κ × α), hasD (dks kf d) (kf k) = d.any fun p => decide (p.1 = k)
  | [] => rfl
  | p :: d => by
    show (eqU (kf p.1) (kf k) || hasD (dks kf d) (kf k)) = _
    rw [has_dks hk k d, hk.eq, List.any_cons]
theorem look_dks {kf : κ → U} {vf : α → U} (hk : KeyF kf) (k : κ) : ∀ d : List (κ × α), lookD (dks kf d) (dvs vf d) (kf k) = (kget d k).map vf
  | [] => rfl
  | p :: d => by
    show (if eqU (kf p.1) (kf k) then some (vf p.2) else lookD (dks kf d) (dvs vf d) (kf k)) = _
    rw [look_dks hk k d, hk.eq, kget]
    by_cases h : p.1 = k <;> simp [h]
theorem upd_dks {kf : κ → U} {vf : α → U} (hk : KeyF kf) (k : κ) (v : α) : ∀ d : List (κ × α), updD (dks kf d) (dvs vf d) (kf k) (vf v) = dvs vf (d.map fun p => if p.1 = k then (p.1, v) else p)
  | [] => rfl
  | p :: d => by
    show (if eqU (kf p.1) (kf k) then vf v else vf p.2) :: updD (dks kf d) (dvs vf d) (kf k) (vf v) = _
    rw [upd_dks hk k v d, hk.eq]
    by_cases h : p.1 = k <;> simp [h, dvs]
theorem put_dks {kf : κ → U} (hk : KeyF kf) (k : κ) (v : α) (d : List (κ × α)) : putDk (dks kf d) (kf k) = dks kf (kset d k v) := by
  unfold putDk kset
  rw [has_dks hk]
  split
  · simp only [dks, List.map_map]
    refine List.map_congr_left fun p _ => ?_
    simp only [Function.comp]
    split <;> rfl
  · simp [dks]
theorem put_dvs {kf : κ → U} {vf : α → U} (hk : KeyF kf) (k : κ) (v : α) (d : List (κ × α)) : putDv (dks kf d) (dvs vf d) (kf k) (vf v) = dvs vf (kset d k v) := by
  unfold putDv kset
  rw [has_dks hk]
  split
  · exact upd_dks hk k v d
  · simp [dvs]
theorem put_d {kf : κ → U} {vf : α → U} (hk : KeyF kf) (k : κ) (v : α) (d : List (κ × α)) : U.dic (putDk (dks kf d) (kf k)) (putDv (dks kf d) (dvs vf d) (kf k) (vf v)) = dU kf vf (kset d k v) := by
  rw [put_dks hk k v, put_dvs hk]
  rfl
theorem kget_lookup {k : κ} : ∀ {d : List (κ × α)}, d.any (fun p => decide (p.1 = k)) = true → ∃ v, kget d k = some v
  | [], h => by cases h
  | p :: d, h => by
    rw [kget]
    by_cases hp : p.1 = k
    · exact ⟨_, if_pos hp⟩
    · rw [List.any_cons, decide_eq_false hp, Bool.false_or] at h
      rw [if_neg hp]
      exact kget_lookup h
end
theorem key_str : KeyF U.str := fun a b => eq_str a b
end Gp
namespace Gp
open Mp
structure Tg where
  n : Int
  b : Int
  s : Int
  deriving DecidableEq
noncomputable def Tg.u (t : Tg) : U := .tup [.int t.n, .int t.b, .int t.s]
noncomputable def Tg.ok (t : Tg) : Prop := (1 ≤ t.n ∧ t.n ≤ 999999) ∧ (0 ≤ t.b ∧ t.b ≤ 999999999) ∧ 0 ≤ t.s ∧ t.s ≤ 996
structure Ent where
  nm : List Nat
  k : Int
  t : Tg
  deriving DecidableEq
noncomputable def Ent.u (e : Ent) : U := .tup [.str e.nm, .int e.k, e.t.u]
noncomputable def okName (s : List Nat) : Prop := 1 ≤ s.length ∧ s.length ≤ 8 ∧ ∀ c ∈ s, c ∈ named
noncomputable def Ent.ok (e : Ent) : Prop := okName e.nm ∧ (1 ≤ e.k ∧ e.k ≤ 2) ∧ e.t.ok
inductive Blk where
  | pc (s : List Nat) | row (l : Int) (ts : List Tg) | fo (es : List Ent)
  deriving DecidableEq
noncomputable def Blk.u : Blk → U
  | .pc s => .tup [.int 0, .str s]
  | .row l ts => .tup [.int 1, .int l, .tup (ts.map Tg.u)]
  | .fo es => .tup [.int 2, .tup (es.map Ent.u)]
noncomputable def Blk.ok : Blk → Prop
  | .pc s => 1 ≤ s.length ∧ s.length ≤ 8 ∧ ∀ c ∈ s, c ∈ sg
  | .row l ts => 1 ≤ l ∧ l ≤ 9 ∧ ts.length ≤ 8 ∧ (1 < l → ts ≠ []) ∧ ∀ t ∈ ts, t.ok
  | .fo es => es.length ≤ 16 ∧ (∀ e ∈ es, e.ok) ∧ (es.map Ent.nm).Pairwise (· < ·)
theorem l_tag_ok {L : List Fn} {m : Nat} (hm : 0 < m) {x : Int} (hx : 0 ≤ x) {G : Hh} {X : Xg} {Q : Qg} (h : ∀ t : Tg, t.ok → Q (.u t.u) G) : callN (Pof L) m F_l_tag [.u (.int x)] G X Q := by
  obtain ⟨m, rfl, _⟩ := lvl hm
  obtain ⟨v, hv, _, ev⟩ := at_ok (xs := [U.int 996, U.int 0]) (i := x / 7 % 2) (by omega) (by simp; omega)
  have hv : v = .int 996 ∨ v = .int 0 := by simpa using hv
  walk_at "go"
  · rcases hv with rfl | rfl
    · exact h ⟨999999, 999999999, 996⟩ (by simp [Tg.ok])
    · exact h ⟨999999, 999999999, 0⟩ (by simp [Tg.ok])
  · exact h ⟨1 + x % 9, x / 9 % 2, x / 18 % 997⟩ (by simp only [Tg.ok]; omega)
  · have e : ((10 : Int) ^ Int.toNat 9) = 1000000000 := rfl
    exact h ⟨1 + x % 999999, x * 48271 % 10 ^ Int.toNat 9, x / 5 % 997⟩ (by simp only [Tg.ok, e]; omega)
theorem l_name_ok {L : List Fn} {m : Nat} (hm : 0 < m) {x : Int} (hx : 0 ≤ x) {G : Hh} {X : Xg} {Q : Qg} (h : ∀ s, okName s → Q (.u (.str s)) G) : callN (Pof L) m F_l_name [.u (.int x)] G X Q := by
  obtain ⟨m, rfl, _⟩ := lvl hm
  have hsz : (rangeI 0 (1 + x % 8)).length ≤ PySem.sizeLine := by rw [range_len, sizeLine_def]; omega
  walk_at "go"
  refine lc_inv (fun ys acc => ∃ s : List Nat, acc = s.map (fun c => U.str [c]) ∧ s.length = ys.length ∧ ∀ c ∈ s, c ∈ named) ⟨[], rfl, rfl, by simp⟩ ?_ ?_
  · rintro ys y zs acc e ⟨s, rfl, hsl, hs⟩ N hN
    obtain ⟨rfl, hyl⟩ := range_at' e
    obtain ⟨c, hc, _, ec⟩ := at_ok (xs := named) (i := (x / 8 + (0 + (ys.length : Int)) * (x / 288 % 36)) % 36) (by omega) (by have : named.length = 36 := rfl; rw [this]; omega)
    have mo : MulOk (0 + (ys.length : Int)) (x / 288 % 36) := mulOk_r (by omega)
    walk_at "go"
    exact hN (some (.str [c])) ⟨s ++ [c], by simp [Mp.addO], by simp [hsl], fun d hd => by
      rcases List.mem_append.mp hd with hd | hd
      · exact hs d hd
      · rw [List.mem_singleton.mp hd]; exact hc⟩
  · rintro acc ⟨s, rfl, hsl, hs⟩
    rw [range_len] at hsl
    walk_at "go"
    refine optK_in (allStr_one (fun c => c) s) ?_
    have hsum := sum_one (fun c : Nat => c) s
    have hs2 : ((s.map fun c => [c]).map List.length).sum + (s.map fun c => [c]).length * ([] : List Nat).length ≤ PySem.sizeLine := by
      rw [hsum, sizeLine_def]; simp; omega
    walk_at "go"
    have hj : joinS [] (s.map fun c => [c]) = s := by rw [join_one (fun c => c) s]; simp
    rw [hj]
    exact h s ⟨by omega, by omega, hs⟩
theorem allStr_map : ∀ ss : List (List Nat), allStr (ss.map U.str) = some ss
  | [] => rfl
  | s :: ss => by rw [List.map_cons, allStr, allStr_map ss]; rfl
theorem sortM_elim {ss : List (List Nat)} {A : List Int → Prop} {B : List (List Nat) → Prop} {C : Prop} (hl : ss.length < 64) (hg : (ss.map U.str).all goodU = true) (h1 : ss = [] → A []) (h2 : B ss) : (match (generalizing := false) allInt (ss.map U.str) with
    | some ns => A ns
    | none => match (generalizing := false) allStr (ss.map U.str) with
      | some s => (s.length < 64 ∧ (ss.map U.str).all goodU = true) ∧ B s
      | none => C) := by
  cases ss with
  | nil => exact h1 rfl
  | cons s ss =>
    have e : allStr ((s :: ss).map U.str) = some (s :: ss) := allStr_map _
    have e2 : allInt ((s :: ss).map U.str) = none := rfl
    rw [e2, e]
    exact ⟨⟨hl, hg⟩, h2⟩
theorem sortS_lt {ss : List (List Nat)} (hn : ss.Nodup) : (sortS ss).Pairwise (· < ·) := by
  refine ((sortS_rises ss).and ((sortS_perm ss).nodup_iff.mpr hn)).imp fun {a b} h => ?_
  exact Decidable.byContradiction fun z => h.2 (List.le_antisymm h.1 z)
theorem kset_keys {κ α : Type} [DecidableEq κ] {d : List (κ × α)} {k : κ} {v : α} (h : (d.map Prod.fst).Nodup) : ((kset d k v).map Prod.fst).Nodup := by
  unfold kset
  by_cases ha : d.any (fun p => decide (p.1 = k)) = true
  · rw [if_pos ha, List.map_map]
    have : (Prod.fst ∘ fun p : κ × α => if p.1 = k then (p.1, v) else p) = Prod.fst := by
      funext p
      simp only [Function.comp]
      split <;> rfl
    rw [this]
    exact h
  · rw [if_neg ha, List.map_append, List.nodup_append]
    refine ⟨h, by simp, fun a ha2 b hb => ?_⟩
    simp only [List.map_cons, List.map_nil, List.mem_singleton] at hb
    subst hb
    rintro rfl
    apply ha
    obtain ⟨p, hp, rfl⟩ := List.mem_map.mp ha2
    exact List.any_eq_true.mpr ⟨p, hp, by simp⟩
/-- what is drawn into a folder -/
noncomputable abbrev Ed := List (List Nat × (Int × Tg))
noncomputable def edv (p : Int × Tg) : U := .tup [.int p.1, p.2.u]
noncomputable def edOk (d : Ed) : Prop := ∀ p ∈ d, okName p.1 ∧ (1 ≤ p.2.1 ∧ p.2.1 ≤ 2) ∧ p.2.2.ok
noncomputable def edE (d : Ed) (s : List Nat) : Ent := match kget d s with
  | some (k, t) => ⟨s, k, t⟩
  | none => ⟨s, 1, ⟨1, 0, 0⟩⟩
theorem sg_atI {j : Int} (h0 : 0 ≤ j) (h1 : j < 94) : ∃ c, c ∈ sg ∧ L2.atI sg j = some c := by
  obtain ⟨c, hc, _, ec⟩ := at_ok (xs := sg) (i := j) h0 (by have : sg.length = 94 := rfl; rw [this]; omega)
  exact ⟨c, hc, ec⟩
theorem block_pc {L : List Fn} {m : Nat} (hm : 1 < m) {sv : SV} {ds : List Int} {k : Nat} (hk : 24 ≤ k) (hd : Drawn k ds) (hs : Lp sv (.lst (ds.map U.int))) {x0 : Int} (e0 : L2.atI (ds.map U.int) 0 = some (.int x0)) (h0 : x0 % 3 = 0) {G : Hh} {X : Xg} {Q : Qg} (h : ∀ b : Blk, b.ok → Q (.u b.u) G) : callN (Pof L) m F_l_block [sv] G X Q := by
  obtain ⟨m, rfl, _⟩ := lvl hm
  obtain ⟨x1, b1, b2, _, e1⟩ := hd.at (i := 1) (by omega) (by omega)
  have f : eqU (.int (x0 % 3)) (.int 0) = true := by rw [eq_int]; exact decide_eq_true h0
  have hcl : (cut (ds.map U.int) (some 2) (some (3 + x1 % 8))).length = (x1 % 8).toNat + 1 := by
    have := cut_len2 (xs := ds.map U.int) (i := 2) (j := 3 + x1 % 8) (a := 2) (b := (3 + x1 % 8).toNat) rfl (by omega) (by rw [List.length_map, hd.1]; omega)
    rw [this]
    omega
  have hsz : (id (cut (ds.map U.int) (some 2) (some (3 + x1 % 8)))).length ≤ PySem.sizeLine := by rw [sizeLine_def, id_eq]; omega
  rcases hs with rfl | rfl | ⟨t, rfl⟩
  all_goals
    walk_at "go"
    rw [id_eq]
    refine lc_inv (fun ys acc => ∃ s : List Nat, acc = s.map (fun c => U.str [c]) ∧ s.length = ys.length ∧ ∀ c ∈ s, c ∈ sg) ⟨[], rfl, rfl, by simp⟩ ?_ ?_
    · rintro ys y zs acc e ⟨s, rfl, hsl, hs⟩ N hN
      obtain ⟨w, hwm, rfl⟩ := ints_mem (x := y) (cut_sub (xs := ds.map U.int) (lo := some 2) (hi := some (3 + x1 % 8)) (by rw [← e]; simp))
      obtain ⟨hw0, hw1⟩ := hd.2 w hwm
      obtain ⟨c, hc, ec⟩ := sg_atI (j := w % 94) (by omega) (by omega)
      walk_at "go"
      refine signs_ok (by omega) ?_
      walk_at "go"
      exact hN (some (.str [c])) ⟨s ++ [c], by simp [Mp.addO], by simp [hsl], fun d hd => by
        rcases List.mem_append.mp hd with hd | hd
        · exact hs d hd
        · rw [List.mem_singleton.mp hd]; exact hc⟩
    · rintro acc ⟨s, rfl, hsl, hs⟩
      rw [hcl] at hsl
      walk_at "go"
      refine optK_in (allStr_one (fun c => c) s) ?_
      have hsum := sum_one (fun c : Nat => c) s
      have hs2 : ((s.map fun c => [c]).map List.length).sum + (s.map fun c => [c]).length * ([] : List Nat).length ≤ PySem.sizeLine := by
        rw [hsum, sizeLine_def]; simp; omega
      walk_at "go"
      have hj : joinS [] (s.map fun c => [c]) = s := by rw [join_one (fun c => c) s]; simp
      rw [hj]
      exact h (.pc s) ⟨by omega, by omega, hs⟩
theorem block_row {L : List Fn} {m : Nat} (hm : 1 < m) {sv : SV} {ds : List Int} {k : Nat} (hk : 24 ≤ k) (hd : Drawn k ds) (hs : Lp sv (.lst (ds.map U.int))) {x0 : Int} (e0 : L2.atI (ds.map U.int) 0 = some (.int x0)) (h0 : x0 % 3 = 1) {G : Hh} {X : Xg} {Q : Qg} (h : ∀ b : Blk, b.ok → Q (.u b.u) G) : callN (Pof L) m F_l_block [sv] G X Q := by
  obtain ⟨m, rfl, _⟩ := lvl hm
  obtain ⟨x1, b1, b2, _, e1⟩ := hd.at (i := 1) (by omega) (by omega)
  obtain ⟨x2, c1, c2, _, e2⟩ := hd.at (i := 2) (by omega) (by omega)
  have f : eqU (.int (x0 % 3)) (.int 0) = false := by rw [eq_int]; exact decide_eq_false (by omega)
  have f1 : eqU (.int (x0 % 3)) (.int 1) = true := by rw [eq_int]; exact decide_eq_true h0
  obtain ⟨y, hy⟩ : ∃ y : Int, (if x2 % 9 > (if decide (1 < 1 + x1 % 9) = true then 1 else 0) then x2 % 9 else (if decide (1 < 1 + x1 % 9) = true then 1 else 0)) = y := ⟨_, rfl⟩
  have hy0 : 0 ≤ y ∧ y ≤ 8 ∧ (1 < 1 + x1 % 9 → 1 ≤ y) := by
    rw [← hy]
    by_cases q : 1 < 1 + x1 % 9
    · simp only [decide_eq_true q, if_true]
      split <;> omega
    · simp only [decide_eq_false q]
      simp only [Bool.false_eq_true, if_false]
      split <;> omega
  have hcl : (cut (ds.map U.int) (some 3) (some (3 + y))).length = y.toNat := by
    have := cut_len2 (xs := ds.map U.int) (i := 3) (j := 3 + y) (a := 3) (b := (3 + y).toNat) rfl (by omega) (by rw [List.length_map, hd.1]; omega)
    rw [this]
    omega
  have hsz : (id (cut (ds.map U.int) (some 3) (some (3 + y)))).length ≤ PySem.sizeLine := by rw [sizeLine_def, id_eq]; omega
  rcases hs with rfl | rfl | ⟨t, rfl⟩
  all_goals
    walk_at "go"
    rw [hy]
    walk_at "go"
    rw [id_eq]
    refine lc_inv (fun ys acc => ∃ ts : List Tg, acc = ts.map Tg.u ∧ ts.length = ys.length ∧ ∀ t ∈ ts, t.ok) ⟨[], rfl, rfl, by simp⟩ ?_ ?_
    · rintro ys z zs acc e ⟨ts, rfl, htl, hts⟩ N hN
      obtain ⟨w, hwm, rfl⟩ := ints_mem (x := z) (cut_sub (xs := ds.map U.int) (lo := some 3) (hi := some (3 + y)) (by rw [← e]; simp))
      obtain ⟨hw0, hw1⟩ := hd.2 w hwm
      walk_at "go"
      refine l_tag_ok (by omega) hw0 fun t ht => ?_
      walk_at "go"
      exact hN (some t.u) ⟨ts ++ [t], by simp [Mp.addO], by simp [htl], fun d hd => by
        rcases List.mem_append.mp hd with hd | hd
        · exact hts d hd
        · rw [List.mem_singleton.mp hd]; exact ht⟩
    · rintro acc ⟨ts, rfl, htl, hts⟩
      rw [hcl] at htl
      walk_at "go"
      exact h (.row (1 + x1 % 9) ts) ⟨by omega, by omega, by omega, fun q z => by subst z; have := hy0.2.2 q; simp at htl; omega, hts⟩
theorem edE_at {d : Ed} {s : List Nat} (h : s ∈ d.map Prod.fst) : ∃ k t, kget d s = some (k, t) ∧ edE d s = ⟨s, k, t⟩ ∧ (s, (k, t)) ∈ d := by
  obtain ⟨p, hp, rfl⟩ := List.mem_map.mp h
  have hany : d.any (fun q => decide (q.1 = p.1)) = true := List.any_eq_true.mpr ⟨p, hp, by simp⟩
  obtain ⟨⟨k, t⟩, e⟩ := kget_lookup hany
  refine ⟨k, t, e, ?_, kget_mem e⟩
  unfold edE
  rw [e]
theorem named_ok : ∀ c ∈ named, c < 1114112 := by decide +kernel
theorem block_fo {L : List Fn} {m : Nat} (hm : 1 < m) {sv : SV} {ds : List Int} {k : Nat} (hk : 24 ≤ k) (hd : Drawn k ds) (hs : Lp sv (.lst (ds.map U.int))) {x0 : Int} (e0 : L2.atI (ds.map U.int) 0 = some (.int x0)) (h0 : x0 % 3 = 2) {G : Hh} {X : Xg} {Q : Qg} (h : ∀ b : Blk, b.ok → Q (.u b.u) G) : callN (Pof L) m F_l_block [sv] G X Q := by
  obtain ⟨m, rfl, _⟩ := lvl hm
  obtain ⟨x1, b1, b2, _, e1⟩ := hd.at (i := 1) (by omega) (by omega)
  have f : eqU (.int (x0 % 3)) (.int 0) = false := by rw [eq_int]; exact decide_eq_false (by omega)
  have f1 : eqU (.int (x0 % 3)) (.int 1) = false := by rw [eq_int]; exact decide_eq_false (by omega)
  have hcl : (cut (ds.map U.int) (some 2) (some (2 + x1 % 17))).length = (x1 % 17).toNat := by
    have := cut_len2 (xs := ds.map U.int) (i := 2) (j := 2 + x1 % 17) (a := 2) (b := (2 + x1 % 17).toNat) rfl (by omega) (by rw [List.length_map, hd.1]; omega)
    rw [this]
    omega
  have hsz : (id (cut (ds.map U.int) (some 2) (some (2 + x1 % 17)))).length ≤ PySem.sizeLine := by rw [sizeLine_def, id_eq]; omega
  rcases hs with rfl | rfl | ⟨t, rfl⟩
  all_goals
    walk_at "go"
    refine for_pre (fun ys ρ G' => ∃ (d : Ed) (x4 : Option SV), ρ = [_, none, none, some (.own (dU U.str edv d)), x4, none] ∧ d.length ≤ ys.length ∧ edOk d ∧ (d.map Prod.fst).Nodup ∧ G' = G) ⟨[], _, rfl, Nat.le_refl _, (fun p hp => by cases hp), List.nodup_nil, rfl⟩ ?_ ?_
    · rintro ys y zs ρ G' K e ⟨d, x4, rfl, hdl, hdo, hdn, rfl⟩ hK
      have hyl : ys.length ≤ 16 := by
        have := congrArg List.length e
        rw [id_eq, hcl] at this
        simp at this
        omega
      obtain ⟨w, hwm, rfl⟩ := ints_mem (x := y) (cut_sub (xs := ds.map U.int) (lo := some 2) (hi := some (2 + x1 % 17)) (by rw [id_eq] at e; rw [← e]; simp))
      obtain ⟨hw0, hw1⟩ := hd.2 w hwm
      have hkl : (dks U.str d).length < PySem.sizeLine := by rw [dks_len, sizeLine_def]; omega
      walk_at "go"
      refine l_tag_ok (by omega) (by omega) fun t ht => ?_
      walk_at "go"
      refine l_name_ok (by omega) hw0 fun s hs => ?_
      walk_at "go"
      refine hK _ _ ⟨kset d s (1 + w / 7 % 2, t), some (.u (.int w)), ?_, ?_, ?_, kset_keys hdn, rfl⟩
      · have e5 : U.dic (putDk (dks U.str d) (.str s)) (putDv (dks U.str d) (dvs edv d) (.str s) (.tup [.int (1 + w / 7 % 2), t.u])) = dU U.str edv (kset d s (1 + w / 7 % 2, t)) := put_d key_str s (1 + w / 7 % 2, t) d
        rw [← e5]
      · have := kset_len d s (1 + w / 7 % 2, t)
        rw [List.length_append, List.length_singleton]
        omega
      · intro p hp
        rcases kset_mem hp with rfl | hp
        · exact ⟨hs, by show 1 ≤ 1 + w / 7 % 2 ∧ 1 + w / 7 % 2 ≤ 2; omega, ht⟩
        · exact hdo p hp
    · rintro ρ G' ⟨d, x4, rfl, hdl, hdo, hdn, rfl⟩
      rw [id_eq, hcl] at hdl
      have ekeys : dks U.str d = (d.map Prod.fst).map U.str := by simp [dks]
      have hk64 : (dks U.str d).length < 64 ∧ (dks U.str d).all goodU = true := by
        refine ⟨by rw [dks_len]; omega, List.all_eq_true.mpr fun x hx => ?_⟩
        obtain ⟨p, hp, rfl⟩ := List.mem_map.mp hx
        have hn := (hdo p hp).1
        simp only [goodU, Bool.and_eq_true, decide_eq_true_eq, List.all_eq_true]
        exact ⟨by rw [sizeLine_def]; have := hn.2.1; omega, fun c hc => named_ok c (hn.2.2 c hc)⟩
      walk_at "go"
      rw [ekeys]
      refine sortM_elim (ss := d.map Prod.fst) (by rw [List.length_map]; omega) (by rw [← ekeys]; exact hk64.2) (fun hnil => ?_) ?_
      rw [show List.map U.int (sortI []) = List.map U.str (sortS (d.map Prod.fst)) by rw [hnil]; rfl]
      all_goals
        have hsz2 : (id ((sortS (d.map Prod.fst)).map U.str)).length ≤ PySem.sizeLine := by rw [id_eq, List.length_map, (sortS_perm _).length_eq, List.length_map, sizeLine_def]; omega
        walk_at "go"
        rw [id_eq]
        refine lc_map (f := U.str) (fun s => some (edE d s).u) (fun s hs N hN => ?_) ?_
        · obtain ⟨k', t', g1, g2, g3⟩ := edE_at ((sortS_perm _).mem_iff.mp hs)
          have hl : lookD (dks U.str d) (dvs edv d) (.str s) = some (edv (k', t')) := by
            have := look_dks (vf := edv) key_str s d
            rw [g1] at this
            exact this
          rw [g2] at hN
          walk_at "go"
          exact hN
        · rw [List.nil_append, filterMap_some]
          walk_at "go"
          have := h (.fo ((sortS (d.map Prod.fst)).map (edE d))) ⟨by rw [List.length_map, (sortS_perm _).length_eq, List.length_map]; omega, fun e he => ?_, ?_⟩
          · simp only [Blk.u, List.map_map] at this
            exact this
          · obtain ⟨s, hs, rfl⟩ := List.mem_map.mp he
            obtain ⟨k', t', g1, g2, g3⟩ := edE_at ((sortS_perm _).mem_iff.mp hs)
            rw [g2]
            exact hdo _ g3
          · rw [List.map_map]
            have : (sortS (d.map Prod.fst)).map (Ent.nm ∘ edE d) = sortS (d.map Prod.fst) := by
              conv => rhs; rw [← List.map_id (sortS (d.map Prod.fst))]
              refine List.map_congr_left fun s hs => ?_
              obtain ⟨k', t', g1, g2, g3⟩ := edE_at ((sortS_perm _).mem_iff.mp hs)
              simp only [Function.comp, g2, id]
            rw [this]
            exact sortS_lt hdn
theorem l_block_ok {L : List Fn} {m : Nat} (hm : 1 < m) {sv : SV} {ds : List Int} {k : Nat} (hk : 24 ≤ k) (hd : Drawn k ds) (hs : Lp sv (.lst (ds.map U.int))) {G : Hh} {X : Xg} {Q : Qg} (h : ∀ b : Blk, b.ok → Q (.u b.u) G) : callN (Pof L) m F_l_block [sv] G X Q := by
  obtain ⟨x0, a1, a2, _, e0⟩ := hd.at (i := 0) (by omega) (by omega)
  have : x0 % 3 = 0 ∨ x0 % 3 = 1 ∨ x0 % 3 = 2 := by omega
  rcases this with q | q | q
  · exact block_pc hm hk hd hs e0 q h
  · exact block_row hm hk hd hs e0 q h
  · exact block_fo hm hk hd hs e0 q h
end Gp
namespace Gp
open Mp
theorem named_sg : ∀ c ∈ named, c ∈ sg := by decide +kernel
theorem tag_thg {t : Tg} (h : t.ok) (d : Nat) : thg (d + 2) t.u = true := by
  obtain ⟨h1, h2, h3⟩ := h
  simp only [Tg.u, thg, thgs, Bool.and_eq_true, decide_eq_true_eq, and_true]
  refine ⟨by simp, ?_, ?_, ?_⟩ <;> omega
theorem blk_thg {b : Blk} (h : b.ok) : thg 5 b.u = true := by
  cases b with
  | pc s =>
    obtain ⟨h1, h2, h3⟩ := h
    simp only [Blk.u, thg, thgs, Bool.and_eq_true, decide_eq_true_eq, and_true, List.all_eq_true]
    exact ⟨by simp, ⟨by omega, by omega⟩, by omega, h3⟩
  | row l ts =>
    obtain ⟨h1, h2, h3, h4, h5⟩ := h
    simp only [Blk.u, thg, thgs, Bool.and_eq_true, decide_eq_true_eq, and_true, thgs_all, List.all_map, List.all_eq_true]
    refine ⟨by simp, ⟨by omega, by omega⟩, ⟨by omega, by omega⟩, by simp; omega, fun t ht => tag_thg (h5 t ht) 1⟩
  | fo es =>
    obtain ⟨h1, h2, h3⟩ := h
    simp only [Blk.u, thg, thgs, Bool.and_eq_true, decide_eq_true_eq, and_true, thgs_all, List.all_map, List.all_eq_true]
    refine ⟨by simp, ⟨by omega, by omega⟩, by simp; omega, fun e he => ?_⟩
    obtain ⟨g1, g2, g3⟩ := h2 e he
    have := tag_thg g3 0
    simp only [Function.comp, Ent.u, thg, thgs, Bool.and_eq_true, decide_eq_true_eq, and_true, List.all_eq_true]
    refine ⟨by simp, ⟨by have := g1.2.1; omega, fun c hc => named_sg c (g1.2.2 c hc)⟩, ⟨by omega, by omega⟩, this⟩
end Gp
namespace Gp
open Mp
theorem vw_pl {n : Nat} {u : U} (h : plU n u = true) {ρ : Rho} {G : Hh} {K : U → Prop} (k : K u) : vwK (.u u) ρ G K := by
  cases u <;> first | exact k | (simp only [plU, Bool.false_eq_true] at h)
noncomputable def isRow (l t : U) : Bool := match l, t with
  | .int i, .tup ts => if 1 ≤ i ∧ i ≤ 9 ∧ ts.length ≤ 8 ∧ ¬ (ts.length = 0 ∧ 1 < i) then ts.all isTag else false
  | _, _ => false
noncomputable def isEntry (u : U) : Bool := match u with
  | .tup [a, .int k, c] => isName a && (if 1 ≤ k ∧ k ≤ 2 then isTag c else false)
  | _ => false
noncomputable def nameOf : U → List Nat
  | .tup (.str s :: _) => s
  | _ => []
noncomputable def adj : List (List Nat) → Bool
  | a :: b :: r => decide (a < b) && adj (b :: r)
  | _ => true
noncomputable def isFolder (u : U) : Bool := match u with
  | .tup es => if es.length ≤ 16 then es.all isEntry && adj (es.map nameOf) else false
  | _ => false
noncomputable def isBlock (u : U) : Bool := match u with
  | .tup [.int k, a] => if k = 0 then (isText a 8 && !eqU a (.str [])) else if k = 2 then isFolder a else false
  | .tup [.int k, a, b] => if k = 1 then isRow a b else false
  | _ => false
theorem isRow_no {l t : U} (h : ∀ ts, t ≠ .tup ts) : isRow l t = false := by
  cases l <;> cases t <;> first | rfl | exact absurd rfl (h _)
theorem is_row_ok {L : List Fn} {m n : Nat} (hm : 2 < m) {l t : U} (hl : plU n l = true) (ht : plU n t = true) {G : Hh} {X : Xg} {Q : Qg} (h : Q (.u (.bl (isRow l t))) G) : callN (Pof L) m F_blocks_is_row [.u (.tup [.int 1, l, t])] G X Q := by
  obtain ⟨m, rfl, _⟩ := lvl hm
  have nl : isNumber l = false → isRow l t = false := fun z => by
    cases l <;> try rfl
    rename_i i
    cases t <;> try rfl
    have : ¬ (1 ≤ i ∧ i ≤ 9) := fun q => by
      have : isNumber (.int i) = true := by simp only [isNumber, Bool.and_eq_true, decide_eq_true_eq]; omega
      rw [this] at z
      cases z
    exact if_neg fun q => this ⟨q.1, q.2.1⟩
  cases t
  case ref a => simp [plU] at ht
  case dit => simp [plU] at ht
  case tup ts =>
    obtain ⟨k, rfl, hl2, hts⟩ := plU_tup' ht
    walk_at "go"
    refine is_number_ok (by omega) hl ?_
    walk_at "go"
    refine Br.any (fun h1 => ?_) (fun h1 => ?_)
    · obtain ⟨i, rfl, hi0, hi1⟩ := isNumber_int h1
      have hsz : (id ts).length ≤ PySem.sizeLine := by rw [sizeLine_def, id_eq]; omega
      have no : ¬ (1 ≤ i ∧ i ≤ 9 ∧ ts.length ≤ 8 ∧ ¬ (ts.length = 0 ∧ 1 < i)) → Q (.u (.bl false)) G := fun z => by
        rw [show isRow (.int i) (.tup ts) = false from if_neg z] at h
        exact h
      have yes : (1 ≤ i ∧ i ≤ 9 ∧ ts.length ≤ 8 ∧ ¬ (ts.length = 0 ∧ 1 < i)) → Q (.u (.bl (ts.all isTag))) G := fun z => by
        rw [show isRow (.int i) (.tup ts) = ts.all isTag from if_pos z] at h
        exact h
      walk_at "go"
      all_goals first
        | exact no (by omega)
        | (have yes := yes (by omega)
           rw [id_eq]
           refine lc_mem (fun x => some (.bl (isTag x))) (fun x hx N hN => ?_) ?_
           · walk_at "go"
             refine is_tag_ok (n := k) (by omega) (plUs_iff.mp hts x hx) ?_
             walk_at "go"
             exact hN
           · rw [List.nil_append, filterMap_some]
             walk_at "go"
             refine optK_in (allBl_mapf _ _) ?_
             walk_at "go"
             rw [all_true]
             exact yes)
    · rw [nl h1] at h
      walk_at "go"
      exact h
  all_goals
    rw [isRow_no (by intro ts z; cases z)] at h
    walk_at "go"
    refine is_number_ok (by omega) hl ?_
    walk_at "go"
    refine Br.any (fun h1 => ?_) (fun h1 => ?_)
    · obtain ⟨i, rfl, hi0, hi1⟩ := isNumber_int h1
      walk_at "go"
      all_goals exact h
    · walk_at "go"
      exact h
theorem isEntry_len {xs : List U} (h : xs.length ≠ 3) : isEntry (.tup xs) = false := by
  match xs, h with
  | [], _ => rfl
  | [_], _ => rfl
  | [_, b], _ => cases b <;> rfl
  | [_, _, _], h => exact absurd rfl h
  | _ :: b :: _ :: _ :: _, _ => cases b <;> rfl
theorem is_entry_ok {L : List Fn} {m n : Nat} (hm : 3 < m) {u : U} (hu : plU n u = true) {G : Hh} {X : Xg} {Q : Qg} (h : Q (.u (.bl (isEntry u))) G) : callN (Pof L) m F_blocks_is_entry [.u u] G X Q := by
  obtain ⟨m, rfl, _⟩ := lvl hm
  cases u
  case ref a => simp [plU] at hu
  case dit => simp [plU] at hu
  case tup xs =>
    obtain ⟨k, rfl, hl, hxs⟩ := plU_tup' hu
    by_cases h3 : xs.length = 3
    · match xs, h3 with
      | [a, b, c], _ =>
        simp only [plUs, Bool.and_eq_true, and_true] at hxs
        walk_at "go"
        refine is_name_ok (n := k) (by omega) hxs.1 ?_
        walk_at "go"
        refine Br.any (fun h1 => ?_) (fun h1 => ?_)
        · walk_at "go"
          refine is_number_ok (n := k) (by omega) hxs.2.1 ?_
          walk_at "go"
          refine Br.any (fun h2 => ?_) (fun h2 => ?_)
          · obtain ⟨i, rfl, hi0, hi1⟩ := isNumber_int h2
            have no : ¬ (1 ≤ i ∧ i ≤ 2) → Q (.u (.bl false)) G := fun z => by
              rw [show isEntry (.tup [a, .int i, c]) = false from by simp only [isEntry, if_neg z, Bool.and_false]] at h
              exact h
            walk_at "go"
            · refine is_tag_ok (n := k) (by omega) hxs.2.2 ?_
              rw [show isEntry (.tup [a, .int i, c]) = isTag c from by simp only [isEntry, h1, Bool.true_and]; exact if_pos (by omega)] at h
              walk_at "go"
              exact h
            all_goals exact no (by omega)
          · have e : isEntry (.tup [a, b, c]) = false := by
              cases b <;> try rfl
              rename_i i _
              have : ¬ (1 ≤ i ∧ i ≤ 2) := fun q => by
                have : isNumber (.int i) = true := by simp only [isNumber, Bool.and_eq_true, decide_eq_true_eq]; omega
                rw [this] at h2
                cases h2
              simp only [isEntry, if_neg this, Bool.and_false]
            rw [e] at h
            walk_at "go"
            exact h
        · have e : isEntry (.tup [a, b, c]) = false := by
            cases b <;> try rfl
            simp only [isEntry, h1, Bool.false_and]
          rw [e] at h
          walk_at "go"
          exact h
    · rw [isEntry_len h3] at h
      walk_at "go"
      exact h
  all_goals
    walk_at "go"
    exact h
theorem adj_range : ∀ l : List (List Nat), (List.range (l.length - 1)).all (fun k => decide (l.getD k [] < l.getD (k + 1) [])) = adj l
  | [] => rfl
  | [_] => rfl
  | a :: b :: r => by
    have ih := adj_range (b :: r)
    rw [show (a :: b :: r).length - 1 = ((b :: r).length - 1) + 1 by simp, List.range_succ_eq_map, List.all_cons, List.all_map]
    simp only [adj]
    rw [← ih]
    rfl
theorem rng_pred (n : Nat) : rangeI 0 ((n : Int) - 1) = (List.range (n - 1)).map fun (k : Nat) => U.int (k : Int) := by
  cases n with
  | zero => rfl
  | succ n =>
    rw [show (((n + 1 : Nat) : Int) - 1) = (n : Int) by omega]
    exact rng_nat
theorem entry_name {u : U} (h : isEntry u = true) : ∃ s b c, u = .tup [.str s, b, c] ∧ nameOf u = s := by
  unfold isEntry at h
  split at h
  · rename_i a k c
    simp only [Bool.and_eq_true] at h
    cases a <;> simp only [isName, Bool.false_eq_true, false_and] at h
    exact ⟨_, _, _, rfl, rfl⟩
  · cases h
theorem is_folder_ok {L : List Fn} {m n : Nat} (hm : 4 < m) {u : U} (hu : plU n u = true) {G : Hh} {X : Xg} {Q : Qg} (h : Q (.u (.bl (isFolder u))) G) : callN (Pof L) m F_blocks_is_folder [.u u] G X Q := by
  obtain ⟨m, rfl, _⟩ := lvl hm
  cases u
  case ref a => simp [plU] at hu
  case dit => simp [plU] at hu
  case tup es =>
    obtain ⟨k, rfl, hl, hes⟩ := plU_tup' hu
    have hsz : (id es).length ≤ PySem.sizeLine := by rw [sizeLine_def, id_eq]; omega
    have hsz2 : (rangeI 0 ((es.length : Int) - 1)).length ≤ PySem.sizeLine := by rw [range_len, sizeLine_def]; omega
    by_cases h16 : es.length ≤ 16
    · have e : isFolder (.tup es) = (es.all isEntry && adj (es.map nameOf)) := if_pos h16
      rw [e] at h
      walk_at "go"
      rw [id_eq]
      refine lc_mem (fun x => some (.bl (isEntry x))) (fun x hx N hN => ?_) ?_
      · walk_at "go"
        refine is_entry_ok (n := k) (by omega) (plUs_iff.mp hes x hx) ?_
        walk_at "go"
        exact hN
      · rw [List.nil_append, filterMap_some]
        walk_at "go"
        refine optK_in (allBl_mapf _ _) ?_
        walk_at "go"
        rw [all_true]
        refine Br.any (fun h1 => ?_) (fun h1 => ?_)
        · rw [h1, Bool.true_and, ← adj_range, List.length_map] at h
          walk_at "go"
          rw [rng_pred]
          have hn : ∀ j : Nat, j < es.length → ∃ s b c, L2.atI es (j : Int) = some (.tup [.str s, b, c]) ∧ (es.map nameOf).getD j [] = s := fun j hj => by
            obtain ⟨s, b, c, e1, e2⟩ := entry_name (List.all_eq_true.mp h1 es[j] (List.getElem_mem hj))
            refine ⟨s, b, c, atI_nat (by rw [List.getElem?_eq_getElem hj, e1]), ?_⟩
            rw [List.getD_eq_getElem?_getD, List.getElem?_map, List.getElem?_eq_getElem hj]
            exact e2
          refine lc_map (f := fun k : Nat => U.int (k : Int)) (fun k => some (.bl (decide ((es.map nameOf).getD k [] < (es.map nameOf).getD (k + 1) [])))) (fun j hj N hN => ?_) ?_
          · have hj := List.mem_range.mp hj
            obtain ⟨s, b, c, e1, e2⟩ := hn j (by omega)
            obtain ⟨s', b', c', e1', e2'⟩ := hn (j + 1) (by omega)
            rw [e2, e2'] at hN
            have e1' : L2.atI es ((j : Int) + 1) = some (.tup [.str s', b', c']) := e1'
            walk_at "go"
            exact hN
          · rw [List.nil_append, filterMap_some]
            walk_at "go"
            refine optK_in (allBl_mapf _ _) ?_
            walk_at "go"
            rw [all_true]
            exact h
        · rw [h1, Bool.false_and] at h
          walk_at "go"
          exact h
    · have e : isFolder (.tup es) = false := if_neg h16
      rw [e] at h
      walk_at "go"
      exact h
  all_goals
    walk_at "go"
    exact h
theorem is_block_ok {L : List Fn} {m n : Nat} (hm : 6 < m) {u : U} (hu : plU n u = true) (hn : n ≤ 40) {G : Hh} {X : Xg} {Q : Qg} (h : Q (.u (.bl (isBlock u))) G) : callN (Pof L) m F_blocks_is_block [.u u] G X Q := by
  obtain ⟨m, rfl, _⟩ := lvl hm
  cases u
  case ref a => simp [plU] at hu
  case dit => simp [plU] at hu
  case tup xs =>
    obtain ⟨k, rfl, hl, hxs⟩ := plU_tup' hu
    match xs with
    | [] =>
      walk_at "go"
      exact h
    | [x] =>
      walk_at "go"
      have e : isBlock (.tup [x]) = false := by cases x <;> rfl
      rw [e] at h
      exact h
    | [x, a] =>
      simp only [plUs, Bool.and_eq_true, and_true] at hxs
      have oka := (plU_eq hxs.2 (by omega)).1
      walk_at "go"
      refine is_number_ok (n := k) (by omega) hxs.1 ?_
      walk_at "go"
      refine Br.any (fun h1 => ?_) (fun h1 => ?_)
      · obtain ⟨i, rfl, hi0, hi1⟩ := isNumber_int h1
        by_cases q1 : i = 1
        · subst q1
          walk_at "go"
          exact h
        · by_cases q0 : i = 0
          · subst q0
            walk_at "go"
            refine is_text_ok (n := k) (by omega) hxs.2 ?_
            walk_at "go"
            have e : isBlock (.tup [.int 0, a]) = (isText a 8 && !eqU a (.str [])) := rfl
            rw [e] at h
            refine Br.any (fun h2 => ?_) (fun h2 => ?_)
            · rw [h2, Bool.true_and] at h
              walk_at "go"
              refine vw_pl hxs.2 ?_
              walk_at "go"
              exact h
            · rw [h2, Bool.false_and] at h
              walk_at "go"
              exact h
          · have f1 : eqU (.int i) (.int 1) = false := by rw [eq_int]; exact decide_eq_false q1
            have f0 : eqU (.int i) (.int 0) = false := by rw [eq_int]; exact decide_eq_false q0
            by_cases q2 : i = 2
            · subst q2
              walk_at "go"
              refine is_folder_ok (n := k) (by omega) hxs.2 ?_
              walk_at "go"
              exact h
            · have f2 : eqU (.int i) (.int 2) = false := by rw [eq_int]; exact decide_eq_false q2
              have e : isBlock (.tup [.int i, a]) = false := by simp only [isBlock, if_neg q0, if_neg q2]
              rw [e] at h
              walk_at "go"
              exact h
      · have e : isBlock (.tup [x, a]) = false := by
          cases x <;> try rfl
          rename_i i
          have : ¬ (0 ≤ i ∧ i ≤ 999999999) := fun q => by
            have : isNumber (.int i) = true := by simp only [isNumber, Bool.and_eq_true, decide_eq_true_eq]; omega
            rw [this] at h1
            cases h1
          simp only [isBlock, if_neg (show ¬ i = 0 by omega), if_neg (show ¬ i = 2 by omega)]
        rw [e] at h
        walk_at "go"
        exact h
    | [x, a, b] =>
      simp only [plUs, Bool.and_eq_true, and_true] at hxs
      walk_at "go"
      refine is_number_ok (n := k) (by omega) hxs.1 ?_
      walk_at "go"
      refine Br.any (fun h1 => ?_) (fun h1 => ?_)
      · obtain ⟨i, rfl, hi0, hi1⟩ := isNumber_int h1
        by_cases q1 : i = 1
        · subst q1
          walk_at "go"
          refine is_row_ok (n := k) (by omega) hxs.2.1 hxs.2.2 ?_
          walk_at "go"
          exact h
        · have f1 : eqU (.int i) (.int 1) = false := by rw [eq_int]; exact decide_eq_false q1
          have e : isBlock (.tup [.int i, a, b]) = false := by simp only [isBlock, if_neg q1]
          rw [e] at h
          walk_at "go"
          exact h
      · have e : isBlock (.tup [x, a, b]) = false := by
          cases x <;> try rfl
          rename_i i
          have : ¬ (0 ≤ i ∧ i ≤ 999999999) := fun q => by
            have : isNumber (.int i) = true := by simp only [isNumber, Bool.and_eq_true, decide_eq_true_eq]; omega
            rw [this] at h1
            cases h1
          simp only [isBlock, if_neg (show ¬ i = 1 by omega)]
        rw [e] at h
        walk_at "go"
        exact h
    | x :: a :: b :: c :: r =>
      simp only [plUs, Bool.and_eq_true] at hxs
      have e : isBlock (.tup (x :: a :: b :: c :: r)) = false := by
        unfold isBlock
        cases x <;> rfl
      rw [e] at h
      have e2 : eqU (.int (((x :: a :: b :: c :: r).length : Nat) : Int)) (.int 3) = false := by rw [eq_int]; exact decide_eq_false (by simp; omega)
      have e3 : eqU (.int (((x :: a :: b :: c :: r).length : Nat) : Int)) (.int 2) = false := by rw [eq_int]; exact decide_eq_false (by simp; omega)
      have e4 : (2 : Int) ≤ (((x :: a :: b :: c :: r).length : Nat) : Int) := by simp; omega
      have e7 : L2.atI (x :: a :: b :: c :: r) 0 = some x := atI_nat (xs := x :: a :: b :: c :: r) (j := 0) rfl
      walk_at "go"
      refine is_number_ok (n := k) (by omega) hxs.1 ?_
      walk_at "go"
      refine Br.any (fun h1 => ?_) (fun h1 => ?_)
      · obtain ⟨i, rfl, hi0, hi1⟩ := isNumber_int h1
        walk_at "go"
        all_goals exact h
      · walk_at "go"
        exact h
  all_goals
    walk_at "go"
    exact h
theorem adj_of : ∀ {l : List (List Nat)}, l.Pairwise (· < ·) → adj l = true
  | [], _ => rfl
  | [_], _ => rfl
  | a :: b :: r, h => by
    rw [List.pairwise_cons] at h
    simp only [adj, Bool.and_eq_true, decide_eq_true_eq]
    exact ⟨h.1 b (by simp), adj_of h.2⟩
theorem tag_is {t : Tg} (h : t.ok) : isTag t.u = true := by
  obtain ⟨h1, h2, h3⟩ := h
  simp only [Tg.u, isTag, isNumber, Bool.and_eq_true, decide_eq_true_eq]
  omega
theorem name_is {s : List Nat} (h : okName s) : isName (.str s) = true := by
  obtain ⟨h1, h2, h3⟩ := h
  simp only [isName, Bool.and_eq_true, decide_eq_true_eq, List.all_eq_true]
  exact ⟨⟨h1, h2⟩, h3⟩
theorem ent_is {e : Ent} (h : e.ok) : isEntry e.u = true := by
  obtain ⟨h1, h2, h3⟩ := h
  simp only [Ent.u, isEntry, name_is h1, Bool.true_and, if_pos h2, tag_is h3]
theorem blk_is {b : Blk} (h : b.ok) : isBlock b.u = true := by
  cases b with
  | pc s =>
    obtain ⟨h1, h2, h3⟩ := h
    simp only [Blk.u, isBlock, if_true, isText, Bool.and_eq_true, Bool.not_eq_true', decide_eq_true_eq, List.all_eq_true]
    refine ⟨?_, ?_⟩
    · first
        | exact ⟨by omega, h3⟩
        | (simp; exact ⟨by omega, h3⟩)
    · rw [eq_str]
      exact decide_eq_false fun z => by rw [z] at h1; simp at h1
  | row l ts =>
    obtain ⟨h1, h2, h3, h4, h5⟩ := h
    have : isRow (.int l) (.tup (ts.map Tg.u)) = (ts.map Tg.u).all isTag := if_pos ⟨h1, h2, by simpa using h3, fun z => h4 z.2 (by simpa using z.1)⟩
    simp only [Blk.u, isBlock, if_true, this, List.all_map, List.all_eq_true]
    exact fun t ht => tag_is (h5 t ht)
  | fo es =>
    obtain ⟨h1, h2, h3⟩ := h
    have : isFolder (.tup (es.map Ent.u)) = ((es.map Ent.u).all isEntry && adj ((es.map Ent.u).map nameOf)) := if_pos (by simpa using h1)
    have e2 : (es.map Ent.u).map nameOf = es.map Ent.nm := by rw [List.map_map]; rfl
    simp only [Blk.u, isBlock, this, e2, adj_of h3, Bool.and_true, List.all_map, List.all_eq_true]
    have : (2 : Int) ≠ 0 := by decide
    simp only [if_neg this, if_true, List.all_eq_true]
    exact fun e he => ent_is (h2 e he)
end Gp
namespace LK12
open Mp Gp
noncomputable def lv : Nat := 60
theorem bad_go (g : U → Bool) : ∀ xs : List U, (xs.filterMap fun u => if g u then none else some u).isEmpty = xs.all g
  | [] => rfl
  | x :: xs => by
    rw [List.filterMap_cons, List.all_cons, ← bad_go g xs]
    cases h : g x <;> simp
theorem bad_okU {k : Nat} (hk : k ≤ 39) (g : U → Bool) {xs : List U} (h : plUs k xs = true) : okU deepU (.lst (xs.filterMap fun u => if g u then none else some u)) = true := by
  show okUs 39 _ = true
  refine plUs_ok 39 _ (plUs_iff.mpr fun u hu => ?_)
  obtain ⟨y, hy, e⟩ := List.mem_filterMap.mp hu
  split at e
  · cases e
  · cases e
    exact plU_mono k 39 _ hk (plUs_iff.mp h _ hy)
theorem tag_whole {a b c : U} : isTag (.tup [a, b, c]) = (wholeB a 1 999999 && (wholeB b 0 999999999 && wholeB c 0 996)) := by
  cases a <;> try rfl
  cases b <;> try (simp [isTag, wholeB, isNumber])
  cases c <;> try (simp [isTag, wholeB, isNumber])
  rw [Bool.eq_iff_iff]
  simp only [Bool.and_eq_true, decide_eq_true_eq]
  omega
theorem ltag_ok {m n : Nat} (hm : 1 < m) {u : U} (hu : plU n u = true) {G : Hh} {X : Xg} {Q : Qg} (h : Q (.u (.bl (isTag u))) G) : callN P m 3000 [.u u] G X Q := by
  obtain ⟨m, rfl, _⟩ := lvl hm
  cases u
  case ref a => simp [plU] at hu
  case dit => simp [plU] at hu
  case tup xs =>
    obtain ⟨k, rfl, hl, hxs⟩ := plU_tup' hu
    by_cases h3 : xs.length = 3
    · match xs, h3 with
      | [a, b, c], _ =>
        simp only [plUs, Bool.and_eq_true, and_true] at hxs
        rw [tag_whole] at h
        walk_at "go"
        refine whole_from_ok (n := k) (by omega) hxs.1 ?_
        walk_at "go"
        refine Br.any (fun h1 => ?_) (fun h1 => ?_)
        · rw [h1, Bool.true_and] at h
          walk_at "go"
          refine whole_from_ok (n := k) (by omega) hxs.2.1 ?_
          walk_at "go"
          refine Br.any (fun h2 => ?_) (fun h2 => ?_)
          · rw [h2, Bool.true_and] at h
            walk_at "go"
            refine whole_from_ok (n := k) (by omega) hxs.2.2 ?_
            walk_at "go"
            exact h
          · rw [h2, Bool.false_and] at h
            walk_at "go"
            exact h
        · rw [h1, Bool.false_and] at h
          walk_at "go"
          exact h
    · rw [isTag_len h3] at h
      walk_at "go"
      exact h
  all_goals
    walk_at "go"
    exact h
theorem entry_whole {a b c : U} : isEntry (.tup [a, b, c]) = (isName a && (wholeB b 1 2 && isTag c)) := by
  cases b <;> try (simp [isEntry, wholeB])
theorem lentry_ok {m n : Nat} (hm : 2 < m) {u : U} (hu : plU n u = true) (hn : n ≤ 40) {G : Hh} {X : Xg} {Q : Qg} (h : Q (.u (.bl (isEntry u))) G) : callN P m 3001 [.u u] G X Q := by
  obtain ⟨m, rfl, _⟩ := lvl hm
  cases u
  case ref a => simp [plU] at hu
  case dit => simp [plU] at hu
  case tup xs =>
    obtain ⟨k, rfl, hl, hxs⟩ := plU_tup' hu
    by_cases h3 : xs.length = 3
    · match xs, h3 with
      | [a, b, c], _ =>
        simp only [plUs, Bool.and_eq_true, and_true] at hxs
        rw [entry_whole] at h
        walk_at "go"
        refine lname_ok (n := k) (by omega) hxs.1 (by omega) ?_
        walk_at "go"
        refine Br.any (fun h1 => ?_) (fun h1 => ?_)
        · rw [h1, Bool.true_and] at h
          walk_at "go"
          refine whole_from_ok (n := k) (by omega) hxs.2.1 ?_
          walk_at "go"
          refine Br.any (fun h2 => ?_) (fun h2 => ?_)
          · rw [h2, Bool.true_and] at h
            walk_at "go"
            refine ltag_ok (n := k) (by omega) hxs.2.2 ?_
            walk_at "go"
            exact h
          · rw [h2, Bool.false_and] at h
            walk_at "go"
            exact h
        · rw [h1, Bool.false_and] at h
          walk_at "go"
          exact h
    · rw [isEntry_len h3] at h
      walk_at "go"
      exact h
  all_goals
    walk_at "go"
    exact h
theorem ssetU_strs {ss : List (List Nat)} (hl : ss.length < 4000) {K : R → Prop} (h : K (.tmp (.lst ((sortS (ddN ss)).map U.str)))) : ssetU (ss.map U.str) K := by
  cases ss with
  | nil =>
    unfold ssetU
    exact ⟨hl, h⟩
  | cons s ss =>
    have e : allStr ((s :: ss).map U.str) = some (s :: ss) := allStr_map _
    have e2 : allInt ((s :: ss).map U.str) = none := rfl
    unfold ssetU
    rw [e2, e]
    exact ⟨hl, h⟩
theorem adj_iff : ∀ {l : List (List Nat)}, adj l = true ↔ l.Pairwise (· < ·) := by
  intro l
  refine ⟨fun h => ?_, adj_of⟩
  induction l with
  | nil => exact List.Pairwise.nil
  | cons a l ih =>
    cases l with
    | nil => exact List.pairwise_singleton _ _
    | cons b r =>
      simp only [adj, Bool.and_eq_true, decide_eq_true_eq] at h
      have h2 := ih h.2
      refine List.pairwise_cons.mpr ⟨fun y hy => ?_, h2⟩
      rcases List.mem_cons.mp hy with rfl | hy
      · exact h.1
      · exact List.lt_trans h.1 ((List.pairwise_cons.mp h2).1 y hy)
theorem sset_adj (l : List (List Nat)) : decide (sortS (ddN l) = l) = adj l := by
  rw [Bool.eq_iff_iff, decide_eq_true_eq, adj_iff]
  constructor
  · intro h
    rw [← h]
    exact sortS_lt (ddN_nodup l)
  · intro h
    have nd : l.Nodup := h.imp fun {a b} z e => by
      rw [e] at z
      exact List.lt_irrefl _ z
    have p1 : (ddN l).Perm l := (List.perm_ext_iff_of_nodup (ddN_nodup l) nd).mpr fun k => ddN_mem
    refine List.Perm.eq_of_pairwise (fun _ _ _ _ a b => List.le_antisymm a b) (sortS_rises _) (h.imp fun {a b} z => ?_) ((sortS_perm _).trans p1)
    exact List.le_of_lt z
theorem eqU_strs : ∀ a b : List (List Nat), eqU (.lst (a.map U.str)) (.lst (b.map U.str)) = decide (a = b)
  | [], [] => rfl
  | [], _ :: _ => by simp [eqU, eqUs]
  | _ :: _, [] => by simp [eqU, eqUs]
  | x :: a, y :: b => by
    have ih := eqU_strs a b
    simp only [eqU] at ih
    simp only [List.map_cons, eqU, eqUs, ih]
    by_cases h1 : x = y <;> by_cases h2 : a = b <;> simp [h1, h2]
theorem piece_is (a : U) : isBlock (.tup [.int 0, a]) = (match a with
    | .str s => (decide (1 ≤ s.length) && decide (s.length ≤ 8)) && s.all fun c => decide (c ∈ sg)
    | _ => false) := by
  cases a <;> try rfl
  rename_i s
  show (isText (.str s) 8 && !eqU (.str s) (.str [])) = _
  rw [eq_str]
  cases s with
  | nil => simp [isText]
  | cons c s =>
    simp only [isText, List.length_cons]
    rw [decide_eq_false (show ¬ (c :: s) = [] by simp), decide_eq_true (show 1 ≤ s.length + 1 by omega), Bool.not_false, Bool.and_true, Bool.true_and]
    congr 1
    rw [Bool.eq_iff_iff, decide_eq_true_eq, decide_eq_true_eq]
    omega
theorem lpiece_ok {m : Nat} (hm : 3 < m) {a : U} {n : Nat} (hu : plU n a = true) {G : Hh} {X : Xg} {Q : Qg} (h : Q (.u (.bl (isBlock (.tup [.int 0, a])))) G) : callN P m 3002 [.u (.tup [.int 0, a])] G X Q := by
  obtain ⟨m, rfl, _⟩ := lvl hm
  rw [piece_is] at h
  have w0 : wholeB (.int 0) 0 2 = true := rfl
  walk_at "go"
  refine whole_from_ok (n := 1) (by omega) (by simp [plU]) ?_
  rw [w0]
  walk_at "go"
  cases a
  case ref a => simp [plU] at hu
  case dit => simp [plU] at hu
  case str s =>
    have hl := plU_str hu
    have hsz : (id (s.map fun c => U.str [c])).length ≤ PySem.sizeLine := by rw [sizeLine_def]; simp; omega
    simp only at h
    by_cases g1 : 1 ≤ s.length
    · by_cases g2 : s.length ≤ 8
      · rw [decide_eq_true g1, decide_eq_true g2, Bool.true_and, Bool.true_and] at h
        have g1' : (1 : Int) ≤ (s.length : Int) := by omega
        have g2' : (s.length : Int) ≤ 8 := by omega
        walk_at "go"
        rw [id_eq]
        refine lc_map (f := fun c => U.str [c]) (fun c => if c ∈ sg then none else some (.str [c])) (fun c hc N hN => ?_) ?_
        · walk_at "go"
          refine signs_ok (by omega) ?_
          by_cases hcs : c ∈ sg
          · rw [if_pos hcs] at hN
            walk_at "go"
            · exact hN
            · rename_i z
              first | exact absurd hcs z | (simp [hcs] at z)
          · rw [if_neg hcs] at hN
            walk_at "go"
            · rename_i z
              first | exact absurd z hcs | (simp [hcs] at z)
            · exact hN
        · have e0 : (s.filterMap fun c => if c ∈ sg then none else some (U.str [c])) = (s.map fun c => U.str [c]).filterMap fun u => if (match u with | .str [c] => decide (c ∈ sg) | _ => false) then none else some u := by
            rw [List.filterMap_map]
            congr 1
            funext c
            by_cases z : c ∈ sg <;> simp [z]
          have okk : okU deepU (.lst (s.filterMap fun c => if c ∈ sg then none else some (U.str [c]))) = true := by
            rw [e0]
            refine bad_okU (k := 1) (by omega) _ (plUs_iff.mpr fun u hu => ?_)
            obtain ⟨c, _, rfl⟩ := List.mem_map.mp hu
            simp [plU]
          have e : (s.filterMap fun c => if c ∈ sg then none else some (U.str [c])).isEmpty = s.all fun c => decide (c ∈ sg) := by
            rw [e0, bad_go, List.all_map]
            rfl
          rw [← e, ← eq_nil] at h
          rw [List.nil_append]
          walk_at "go"
          exact h
      · rw [decide_eq_false g2, Bool.and_false, Bool.false_and] at h
        have g1' : (1 : Int) ≤ (s.length : Int) := by omega
        have g2' : ¬ (s.length : Int) ≤ 8 := by omega
        walk_at "go"
        exact h
    · rw [decide_eq_false g1, Bool.false_and, Bool.false_and] at h
      have g1' : ¬ (1 : Int) ≤ (s.length : Int) := by omega
      walk_at "go"
      exact h
  all_goals
    walk_at "go"
    exact h
theorem wholeB_out {x : U} {a b : Int} (h : wholeB x a b = true) : ∃ i : Int, x = .int i ∧ a ≤ i ∧ i ≤ b := by
  cases x <;> simp only [wholeB, Bool.false_eq_true, Bool.and_eq_true, decide_eq_true_eq] at h
  exact ⟨_, rfl, h⟩
theorem row_no {a b : U} (h : wholeB a 1 9 = false) : isBlock (.tup [.int 1, a, b]) = false := by
  show isRow a b = false
  cases a <;> try rfl
  rename_i i
  cases b <;> try rfl
  refine if_neg fun q => ?_
  simp only [wholeB, decide_eq_true q.1, decide_eq_true q.2.1, Bool.and_true, reduceCtorEq, Bool.true_eq_false] at h
theorem row_yes {i : Int} {ts : List U} (h : 1 ≤ i ∧ i ≤ 9) : isBlock (.tup [.int 1, .int i, .tup ts]) = ((decide ((if 1 < i then 1 else 0) ≤ ts.length) && decide (ts.length ≤ 8)) && ts.all isTag) := by
  show (if 1 ≤ i ∧ i ≤ 9 ∧ ts.length ≤ 8 ∧ ¬ (ts.length = 0 ∧ 1 < i) then ts.all isTag else false) = _
  by_cases z : 1 ≤ i ∧ i ≤ 9 ∧ ts.length ≤ 8 ∧ ¬ (ts.length = 0 ∧ 1 < i)
  · have z5 : (if 1 < i then 1 else 0) ≤ ts.length := by split <;> omega
    rw [if_pos z, decide_eq_true z5, decide_eq_true z.2.2.1, Bool.true_and, Bool.true_and]
  · rw [if_neg z]
    by_cases g : ts.length ≤ 8
    · have z5 : ¬ (if 1 < i then 1 else 0) ≤ ts.length := fun w => z ⟨h.1, h.2, g, fun q => by rw [if_pos q.2] at w; omega⟩
      rw [decide_eq_false z5, Bool.false_and, Bool.false_and]
    · rw [decide_eq_false g, Bool.and_false, Bool.false_and]
theorem lrow_ok {m : Nat} (hm : 3 < m) {a b : U} {n : Nat} (ha : plU n a = true) (hb : plU n b = true) (hn : n ≤ 39) {G : Hh} {X : Xg} {Q : Qg} (h : Q (.u (.bl (isBlock (.tup [.int 1, a, b])))) G) : callN P m 3002 [.u (.tup [.int 1, a, b])] G X Q := by
  obtain ⟨m, rfl, _⟩ := lvl hm
  have w0 : wholeB (.int 1) 0 2 = true := rfl
  walk_at "go"
  refine whole_from_ok (n := 1) (by omega) (by simp [plU]) ?_
  rw [w0]
  walk_at "go"
  refine whole_from_ok (n := n) (by omega) ha ?_
  walk_at "go"
  refine Br.any (fun h1 => ?_) (fun h1 => ?_)
  · obtain ⟨i, rfl, i1, i9⟩ := wholeB_out h1
    cases b
    case ref a => simp [plU] at hb
    case dit => simp [plU] at hb
    case tup ts =>
      obtain ⟨k, rfl, hl, hts⟩ := plU_tup' hb
      have hsz : (id ts).length ≤ PySem.sizeLine := by rw [sizeLine_def, id_eq]; omega
      rw [row_yes ⟨i1, i9⟩] at h
      have e1 : ((if decide (1 < i) = true then (1 : Int) else 0) ≤ (ts.length : Int)) ↔ ((if 1 < i then 1 else 0) ≤ ts.length) := by
        by_cases z : 1 < i
        · rw [if_pos (decide_eq_true z), if_pos z]; omega
        · rw [if_neg (by rw [decide_eq_false z]; exact Bool.false_ne_true), if_neg z]; omega
      walk_at "go"
      · rename_i q1 q2
        rw [decide_eq_true (e1.mp q1), decide_eq_true (show ts.length ≤ 8 by omega), Bool.true_and, Bool.true_and] at h
        rw [id_eq]
        refine lc_mem (fun x => if isTag x then none else some x) (fun x hx N hN => ?_) ?_
        · walk_at "go"
          refine ltag_ok (n := k) (by omega) (plUs_iff.mp hts x hx) ?_
          walk_at "go"
          refine Br.any (fun q => ?_) (fun q => ?_)
          · rw [if_pos q] at hN
            walk_at "go"
            exact hN
          · rw [q] at hN
            walk_at "go"
            exact hN
        · have okk := bad_okU (k := k) (by omega) isTag hts
          rw [← bad_go, ← eq_nil] at h
          rw [List.nil_append]
          walk_at "go"
          exact h
      · rename_i q1 q2
        rw [decide_eq_false (show ¬ ts.length ≤ 8 by omega), Bool.and_false, Bool.false_and] at h
        rw [decide_eq_false q2]
        exact h
      · rename_i q1
        rw [decide_eq_false (fun w => q1 (e1.mpr w)), Bool.false_and, Bool.false_and] at h
        exact h
    all_goals
      walk_at "go"
      exact h
  · rw [row_no h1] at h
    walk_at "go"
    exact h
theorem names_of {es : List U} (h : es.all isEntry = true) : ∀ e ∈ es, ∃ s b c, e = .tup [.str s, b, c] ∧ nameOf e = s := fun e he => entry_name (List.all_eq_true.mp h e he)
theorem lfolder_ok {m : Nat} (hm : 4 < m) {a : U} {n : Nat} (ha : plU n a = true) (hn : n ≤ 39) {G : Hh} {X : Xg} {Q : Qg} (h : Q (.u (.bl (isBlock (.tup [.int 2, a])))) G) : callN P m 3002 [.u (.tup [.int 2, a])] G X Q := by
  obtain ⟨m, rfl, _⟩ := lvl hm
  replace h : Q (.u (.bl (isFolder a))) G := h
  have w0 : wholeB (.int 2) 0 2 = true := rfl
  walk_at "go"
  refine whole_from_ok (n := 1) (by omega) (by simp [plU]) ?_
  rw [w0]
  walk_at "go"
  cases a
  case ref a => simp [plU] at ha
  case dit => simp [plU] at ha
  case tup es =>
    obtain ⟨k, rfl, hl, hes⟩ := plU_tup' ha
    have hsz : (id es).length ≤ PySem.sizeLine := by rw [sizeLine_def, id_eq]; omega
    by_cases h16 : es.length ≤ 16
    · have e : isFolder (.tup es) = (es.all isEntry && adj (es.map nameOf)) := if_pos h16
      rw [e] at h
      have h16' : ¬ (16 : Int) < (es.length : Int) := by omega
      walk_at "go"
      rw [id_eq]
      refine lc_mem (fun x => if isEntry x then none else some x) (fun x hx N hN => ?_) ?_
      · walk_at "go"
        refine lentry_ok (n := k) (by omega) (plUs_iff.mp hes x hx) (by omega) ?_
        walk_at "go"
        refine Br.any (fun q => ?_) (fun q => ?_)
        · rw [if_pos q] at hN
          walk_at "go"
          exact hN
        · rw [q] at hN
          walk_at "go"
          exact hN
      · have okk := bad_okU (k := k) (by omega) isEntry hes
        have eb := bad_go isEntry es
        rw [← eq_nil] at eb
        rw [List.nil_append]
        generalize (es.filterMap fun u => if isEntry u then none else some u) = bad at okk eb ⊢
        cases hall : es.all isEntry with
        | false =>
          rw [hall] at eb h
          walk_at "go"
          exact h
        | true =>
          rw [hall] at eb h
          rw [Bool.true_and] at h
          have hn2 := names_of hall
          walk_at "go"
          rw [id_eq]
          refine lc_mem (fun x => some (.str (nameOf x))) (fun x hx N hN => ?_) ?_
          · obtain ⟨s, b, c, e1, e2⟩ := hn2 x hx
            rw [e2] at hN
            subst e1
            walk_at "go"
            exact hN
          · rw [List.nil_append]
            have em : (es.filterMap fun x => some (U.str (nameOf x))) = (es.map nameOf).map U.str := by
              rw [List.map_map]
              exact filterMap_some _ _
            rw [em]
            have hlen : (es.map nameOf).length < 4000 := by rw [List.length_map]; omega
            rw [← sset_adj, ← eqU_strs] at h
            have ok1 : ∀ l : List (List Nat), okU deepU (.lst (l.map U.str)) = true := fun l => by
              show okUs 39 _ = true
              induction l with
              | nil => rfl
              | cons x l ih => simp only [List.map_cons, okUs, okU, Bool.true_and]; exact ih
            have o1 := ok1 (sortS (ddN (es.map nameOf)))
            have o2 := ok1 (es.map nameOf)
            walk_at "go"
            refine ssetU_strs hlen ?_
            walk_at "go"
            exact h
    · have e : isFolder (.tup es) = false := if_neg h16
      rw [e] at h
      have h16' : (16 : Int) < (es.length : Int) := by omega
      walk_at "go"
      exact h
  all_goals
    walk_at "go"
    exact h
theorem block_no {x : U} (h : wholeB x 0 2 = false) (r : List U) : isBlock (.tup (x :: r)) = false := by
  have f : ∀ i : Int, x = .int i → ¬ (0 ≤ i ∧ i ≤ 2) := fun i e z => by
    subst e
    simp only [wholeB, decide_eq_true z.1, decide_eq_true z.2, Bool.and_true, reduceCtorEq, Bool.true_eq_false] at h
  match r with
  | [] => cases x <;> rfl
  | [a] =>
    cases x <;> try rfl
    rename_i i
    have := f i rfl
    simp only [isBlock, if_neg (show ¬ i = 0 by omega), if_neg (show ¬ i = 2 by omega)]
  | [a, b] =>
    cases x <;> try rfl
    rename_i i
    have := f i rfl
    simp only [isBlock, if_neg (show ¬ i = 1 by omega)]
  | a :: b :: c :: r => cases x <;> rfl
theorem lblock_ok {m n : Nat} (hm : 4 < m) {u : U} (hu : plU n u = true) (hn : n ≤ 39) {G : Hh} {X : Xg} {Q : Qg} (h : Q (.u (.bl (isBlock u))) G) : callN P m 3002 [.u u] G X Q := by
  cases u
  case ref a => simp [plU] at hu
  case dit => simp [plU] at hu
  case tup xs =>
    obtain ⟨k, rfl, hl, hxs⟩ := plU_tup' hu
    match xs with
    | [] =>
      obtain ⟨m, rfl, _⟩ := lvl hm
      walk_at "go"
      exact h
    | [x] =>
      obtain ⟨m, rfl, _⟩ := lvl hm
      walk_at "go"
      have e : isBlock (.tup [x]) = false := by cases x <;> rfl
      rw [e] at h
      exact h
    | [x, a] =>
      simp only [plUs, Bool.and_eq_true, and_true] at hxs
      cases hw : wholeB x 0 2 with
      | false =>
        rw [block_no hw] at h
        obtain ⟨m, rfl, _⟩ := lvl hm
        walk_at "go"
        refine whole_from_ok (n := k) (by omega) hxs.1 ?_
        rw [hw]
        walk_at "go"
        exact h
      | true =>
        obtain ⟨i, rfl, i0, i2⟩ := wholeB_out hw
        have : i = 0 ∨ i = 1 ∨ i = 2 := by omega
        rcases this with rfl | rfl | rfl
        · exact lpiece_ok (by omega) hxs.2 h
        · obtain ⟨m, rfl, _⟩ := lvl hm
          walk_at "go"
          refine whole_from_ok (n := k) (by omega) hxs.1 ?_
          rw [hw]
          walk_at "go"
          exact h
        · exact lfolder_ok (by omega) hxs.2 (by omega) h
    | [x, a, b] =>
      simp only [plUs, Bool.and_eq_true, and_true] at hxs
      cases hw : wholeB x 0 2 with
      | false =>
        rw [block_no hw] at h
        obtain ⟨m, rfl, _⟩ := lvl hm
        walk_at "go"
        refine whole_from_ok (n := k) (by omega) hxs.1 ?_
        rw [hw]
        walk_at "go"
        exact h
      | true =>
        obtain ⟨i, rfl, i0, i2⟩ := wholeB_out hw
        have : i = 0 ∨ i = 1 ∨ i = 2 := by omega
        rcases this with rfl | rfl | rfl
        · obtain ⟨m, rfl, _⟩ := lvl hm
          walk_at "go"
          refine whole_from_ok (n := k) (by omega) hxs.1 ?_
          rw [hw]
          walk_at "go"
          exact h
        · exact lrow_ok (by omega) hxs.2.1 hxs.2.2 (by omega) h
        · obtain ⟨m, rfl, _⟩ := lvl hm
          walk_at "go"
          refine whole_from_ok (n := k) (by omega) hxs.1 ?_
          rw [hw]
          walk_at "go"
          exact h
    | x :: a :: b :: c :: r =>
      simp only [plUs, Bool.and_eq_true] at hxs
      have e : isBlock (.tup (x :: a :: b :: c :: r)) = false := by
        unfold isBlock
        cases x <;> rfl
      rw [e] at h
      have e2 : eqU (.int (((x :: a :: b :: c :: r).length : Nat) : Int)) (.int 3) = false := by rw [eq_int]; exact decide_eq_false (by simp; omega)
      have e3 : eqU (.int (((x :: a :: b :: c :: r).length : Nat) : Int)) (.int 2) = false := by rw [eq_int]; exact decide_eq_false (by simp; omega)
      have e4 : ¬ (((x :: a :: b :: c :: r).length : Nat) : Int) < 2 := by simp; omega
      have e7 : L2.atI (x :: a :: b :: c :: r) 0 = some x := atI_nat (xs := x :: a :: b :: c :: r) (j := 0) rfl
      obtain ⟨m, rfl, _⟩ := lvl hm
      walk_at "go"
      refine whole_from_ok (n := k) (by omega) hxs.1 ?_
      cases hw : wholeB x 0 2 with
      | false =>
        walk_at "go"
        exact h
      | true =>
        obtain ⟨i, rfl, i0, i2⟩ := wholeB_out hw
        have : i = 0 ∨ i = 1 ∨ i = 2 := by omega
        rcases this with rfl | rfl | rfl
        all_goals
          walk_at "go"
          exact h
  all_goals
    obtain ⟨m, rfl, _⟩ := lvl hm
    walk_at "go"
    exact h
theorem lblock_fz {m : Nat} (hm : 0 < m) {t : PySem.Addr} {xs : List U} {G : Hh} {X : Xg} {Q : Qg} (h : Q (.u (.bl false)) G) : callN P m 3002 [.fz t (.lst xs)] G X Q := by
  obtain ⟨m, rfl, _⟩ := lvl hm
  walk_at "go"
  exact h
theorem thg_pl : ∀ {d : Nat} {u : U}, thg d u = true → plU d u = true
  | 0, u, h => by rw [thg_zero] at h; cases h
  | d + 1, u, h => by
    cases u <;> simp only [thg, Bool.and_eq_true, decide_eq_true_eq, Bool.false_eq_true] at h
    case int i => simp [plU]
    case str s =>
      simp only [plU, decide_eq_true_eq]
      omega
    case tup xs =>
      have hal := h.2
      rw [thgs_all] at hal
      simp only [plU, Bool.and_eq_true, decide_eq_true_eq]
      exact ⟨by omega, plUs_iff.mpr fun x hx => thg_pl (List.all_eq_true.mp hal x hx)⟩
theorem plT {d : Nat} {xs : List U} (hl : xs.length ≤ 1000000) (h : ∀ x ∈ xs, plU d x = true) : plU (d + 1) (.tup xs) = true := by
  simp only [plU, Bool.and_eq_true, decide_eq_true_eq]
  exact ⟨hl, plUs_iff.mpr h⟩
noncomputable def consts : List U := [.int 0, .int 1, .int 2, .int 3, .int 9, .int 10, .int (-1), .int 996, .int 997, .int 999999, .int 1000000, .int 999999999, .int 1000000000, .bl true, .bl false, .non,
  .str [], .str [97], .str [122, 122, 57], .str [65], .str [97, 32, 98], .str [97, 10], .str [126], .str [49, 50, 51, 52, 53, 54, 55, 56, 57], .tup [], .tup [.int 1], .tup [.int 1, .int 2, .int 3],
  .tup [.str [97], .int 1, .tup [.int 1, .int 2, .int 3]]]
theorem consts_pl : ∀ u ∈ consts, plU 2 u = true := by decide +kernel
theorem other_ok {m n : Nat} (hm : 0 < m) (h1 : 1 ≤ n) {u : U} (hu : plU n u = true) {sv : SV} {ds : List Int} (hd : Drawn 36 ds) (hs : Lp sv (.lst (ds.map U.int))) {G : Hh} {X : Xg} {Q : Qg} (h : ∀ v, plU (n + 1) v = true → Q (.u v) G) : callN P m 3003 [sv, .u u] G X Q := by
  obtain ⟨m, rfl, _⟩ := lvl hm
  obtain ⟨x, _, _, _, e0⟩ := hd.at (i := 10) (by omega) (by omega)
  have e10 : (10 : Int) ^ 9 = 1000000000 := by decide
  have pick : ∃ v, plU (n + 1) v = true ∧ L2.atI (consts ++ [.lst [], .lst [u], .tup [u]]) (x % 31) = some v := by
    obtain ⟨v, hv, _, e⟩ := at_ok (xs := consts ++ [.lst [], .lst [u], .tup [u]]) (i := x % 31) (by omega) (by
      have : ((consts ++ [U.lst [], U.lst [u], U.tup [u]]).length : Int) = 31 := rfl
      omega)
    refine ⟨v, ?_, e⟩
    rcases List.mem_append.mp hv with z | z
    · exact plU_mono 2 (n + 1) v (by omega) (consts_pl v z)
    · simp only [List.mem_cons, List.not_mem_nil, or_false] at z
      rcases z with rfl | rfl | rfl <;> simp [plU, plUs, hu]
  obtain ⟨v, hv, e⟩ := pick
  rcases hs with rfl | rfl | ⟨t, rfl⟩
  all_goals
    walk_at "go"
    exact h v hv
theorem bent_ok : ∀ (n : Nat) {m : Nat} {deep : Int} (_ : n < m) (_ : 0 ≤ deep) (_ : (n : Int) + deep ≤ 6) {u : U} (_ : thg n u = true) {sv : SV} {ds : List Int} (_ : Drawn 36 ds) (_ : Lp sv (.lst (ds.map U.int))) {G : Hh} {X : Xg} {Q : Qg} (_ : ∀ v, plU (n + 2) v = true → Q (.u v) G), callN P m 3004 [.u u, sv, .u (.int deep)] G X Q
  | 0, _, _, _, _, _, u, hu, _, _, _, _, _, _, _, _ => by rw [thg_zero] at hu; cases hu
  | n + 1, m, deep, hm, hd0, hdp, u, hu, sv, ds, hd, hs, G, X, Q, h => by
    have hpl := thg_pl hu
    have ot : ∀ {m' n' : Nat} {x : U} {sv' : SV} {X' : Xg} {Q' : Qg}, 0 < m' → 1 ≤ n' → n' ≤ n + 1 → plU n' x = true → Lp sv' (.lst (ds.map U.int)) → (∀ v, plU (n + 2) v = true → Q' (.u v) G) → callN P m' 3003 [sv', .u x] G X' Q' := fun h1 h2 h3 h4 h5 h6 =>
      other_ok h1 h2 h4 hd h5 fun v hv => h6 v (plU_mono _ _ v (by omega) hv)
    obtain ⟨m, rfl, _⟩ := lvl (show 0 < m by omega)
    obtain ⟨x0, _, _, _, e0⟩ := hd.at (i := deep) (by omega) (by omega)
    obtain ⟨x1, _, _, _, e1⟩ := hd.at (i := 5 + deep) (by omega) (by omega)
    have h' : ∀ v, plU (n + 2) v = true → Q (.u v) G := fun v hv => h v (plU_mono _ _ v (by omega) hv)
    cases u <;> try (simp only [thg, Bool.false_eq_true] at hu)
    case int i =>
      rcases hs with rfl | rfl | ⟨t, rfl⟩
      all_goals
        walk_at "go"
        refine ot (n' := n + 1) (by omega) (by omega) (by omega) hpl (by first | exact Lp.v | exact Lp.f | exact Lp.o) fun v hv => ?_
        walk_at "go"
        exact h' v hv
    case str s =>
      rcases hs with rfl | rfl | ⟨t, rfl⟩
      all_goals
        walk_at "go"
        refine ot (n' := n + 1) (by omega) (by omega) (by omega) hpl (by first | exact Lp.v | exact Lp.f | exact Lp.o) fun v hv => ?_
        walk_at "go"
        exact h' v hv
    case tup xs =>
      simp only [Bool.and_eq_true, decide_eq_true_eq] at hu
      obtain ⟨hlen, hth⟩ := hu
      rw [thgs_all] at hth
      have hmem : ∀ x ∈ xs, thg n x = true := fun x hx => List.all_eq_true.mp hth x hx
      have okx := (plU_eq hpl (by omega)).1
      cases hx0 : xs with
      | nil =>
        subst hx0
        rcases hs with rfl | rfl | ⟨t, rfl⟩
        all_goals
          walk_at "go"
          refine ot (n' := n + 1) (by omega) (by omega) (by omega) hpl (by first | exact Lp.v | exact Lp.f | exact Lp.o) fun v hv => ?_
          walk_at "go"
          exact h' v hv
      | cons y ys =>
        rw [← hx0]
        have hne : 0 < xs.length := by rw [hx0]; simp
        have fe : eqU (.tup xs) (.tup []) = false := by rw [hx0]; simp [eqU, eqUs]
        clear hx0
        have fl : ¬ ((xs.length : Nat) : Int) = 0 := by omega
        have a0 : 0 ≤ x0 % ((xs.length : Nat) : Int) := Int.emod_nonneg _ fl
        have a1 : x0 % ((xs.length : Nat) : Int) < ((xs.length : Nat) : Int) := Int.emod_lt_of_pos _ (by omega)
        obtain ⟨z, hz, _, ez⟩ := at_ok a0 a1
        have c1 := cut_lenle xs none (some (x0 % ((xs.length : Nat) : Int)))
        have c2 := cut_lenle xs (some (x0 % ((xs.length : Nat) : Int))) none
        have c3 := cut_lenle xs (some ((x0 % ((xs.length : Nat) : Int)) + 1)) none
        have mem : ∀ {lo hi : Option Int} {v : U}, v ∈ cut xs lo hi → plU (n + 2) v = true := fun hv => plU_mono n _ _ (by omega) (thg_pl (hmem _ (cut_sub hv)))
        have hn1 : 1 ≤ n := by
          cases n with
          | zero => have := hmem z hz; rw [thg_zero] at this; cases this
          | succ n => omega
        have three : ∀ {v : U} {lo hi lo' hi' : Option Int}, plU (n + 2) v = true → plU (n + 3) (.tup (cut xs lo hi ++ [v] ++ cut xs lo' hi')) = true := fun {v lo hi lo' hi'} m3 =>
          plT (by have := cut_lenle xs lo hi; have := cut_lenle xs lo' hi'; simp only [List.length_append, List.length_cons, List.length_nil]; omega) fun y hy => by
            rcases List.mem_append.mp hy with q | q
            · rcases List.mem_append.mp q with q | q
              · exact mem q
              · rw [List.mem_singleton.mp q]; exact m3
            · exact mem q
        have two : ∀ {lo hi lo' hi' : Option Int}, plU (n + 3) (.tup (cut xs lo hi ++ cut xs lo' hi')) = true := fun {lo hi lo' hi'} =>
          plT (by have := cut_lenle xs lo hi; have := cut_lenle xs lo' hi'; simp only [List.length_append]; omega) fun y hy => by
            rcases List.mem_append.mp hy with q | q
            · exact mem q
            · exact mem q
        have sz1 : ∀ v : U, (cut xs none (some (x0 % ((xs.length : Nat) : Int)))).length + [v].length ≤ PySem.sizeLine := fun v => by rw [sizeLine_def]; simp only [List.length_cons, List.length_nil]; omega
        have sz2 : ∀ v : U, (cut xs none (some (x0 % ((xs.length : Nat) : Int))) ++ [v]).length + (cut xs (some (x0 % ((xs.length : Nat) : Int))) none).length ≤ PySem.sizeLine := fun v => by rw [sizeLine_def, List.length_append]; simp only [List.length_cons, List.length_nil]; omega
        have sz3 : ∀ v : U, (cut xs none (some (x0 % ((xs.length : Nat) : Int))) ++ [v]).length + (cut xs (some ((x0 % ((xs.length : Nat) : Int)) + 1)) none).length ≤ PySem.sizeLine := fun v => by rw [sizeLine_def, List.length_append]; simp only [List.length_cons, List.length_nil]; omega
        have sz4 : (cut xs none (some (x0 % ((xs.length : Nat) : Int)))).length + (cut xs (some ((x0 % ((xs.length : Nat) : Int)) + 1)) none).length ≤ PySem.sizeLine := by rw [sizeLine_def]; omega
        have sz5 : (cut xs (some (x0 % ((xs.length : Nat) : Int))) none).length + (cut xs none (some (x0 % ((xs.length : Nat) : Int)))).length ≤ PySem.sizeLine := by rw [sizeLine_def]; omega
        have zpl := thg_pl (hmem z hz)
        have z1 := sz1 z
        have z2 := sz2 z
        rcases hs with rfl | rfl | ⟨t, rfl⟩
        all_goals
          walk_at "go"
          all_goals first
            | exact h _ two
            | exact h _ (three (plU_mono n _ _ (by omega) zpl))
            | (refine ot (n' := n) (by omega) (by omega) (by omega) zpl (by first | exact Lp.v | exact Lp.f | exact Lp.o) fun v hv => ?_
               have s1 := sz1 v
               have s2 := sz2 v
               walk_at "go"
               exact h _ (three hv))
            | (refine ot (n' := n + 1) (by omega) (by omega) (by omega) hpl (by first | exact Lp.v | exact Lp.f | exact Lp.o) fun v hv => ?_
               walk_at "go"
               exact h' v hv)
            | (refine bent_ok n (by omega) (by omega) (by omega) (hmem z hz) hd (by first | exact Lp.v | exact Lp.f | exact Lp.o) fun v hv => ?_
               have s1 := sz1 v
               have s2 := sz3 v
               walk_at "go"
               exact h _ (three hv))
theorem eqbl (k : Bool) : eqU (.bl k) (.bl k) = true := by cases k <;> rfl
theorem law_go {m : Nat} (hm1 : 40 < m) (ns : List Int) (hl : ns.length ≤ 63) : callN P (m + 1) 3005 [.u (.lst (ns.map U.int))] (fun _ => none) (fun _ _ _ => False) fun r _ => r = .u (.bl true) := by
  have hc := cells_len (k := 12) hl
  walk_at "go"
  refine for_mem (fun ρ G => ∃ a1 a2 a3 a4 a5 a6, ρ = [some (.u (.lst (ns.map U.int))), a1, a2, a3, a4, a5, a6] ∧ G = fun _ => none) ⟨_, _, _, _, _, _, rfl, rfl⟩ ?_ ?_
  · rintro x hx ρ G K ⟨a1, a2, a3, a4, a5, a6, rfl, rfl⟩ hK
    obtain ⟨i, rfl⟩ := cells_mem hx
    walk_at "go"
    refine numbers_ok (k := 36) (by omega) (by omega) fun ds hd => ?_
    have hcut : cut (ds.map U.int) (some 12) none = (ds.drop 12).map U.int := by
      rw [show (12 : Int) = ((12 : Nat) : Int) from rfl, cut_from, List.map_drop]
    have hd12 : Drawn 24 (ds.drop 12) := ⟨by rw [List.length_drop, hd.1], fun y hy => hd.2 y (List.mem_of_mem_drop hy)⟩
    obtain ⟨x11, _, _, _, e11⟩ := hd.at (i := 11) (by omega) (by omega)
    walk_at "go"
    rw [hcut]
    refine l_block_ok (by omega) (k := 24) (by omega) hd12 Lp.o fun b hb => ?_
    have hb5 := blk_thg hb
    walk_at "go"
    all_goals first
      | (refine bent_ok 5 (by omega) (by omega) (by omega) hb5 hd Lp.f fun v hv => ?_
         walk_at "go")
      | have hv : plU 7 b.u = true := plU_mono 5 7 _ (by omega) (thg_pl hb5)
    all_goals
      have ev := plU_eq hv (by omega)
      obtain ⟨ev1, ev2⟩ := ev
      refine copied_ok 7 (by omega) hv fun r hr => ?_
      rcases hr with rfl | ⟨rfl, xs, ex⟩
      · walk_at "go"
        refine is_block_ok (n := 7) (by omega) hv (by omega) ?_
        walk_at "go"
        refine lblock_ok (n := 7) (by omega) hv (by omega) ?_
        first
          | have eb := eqbl (isBlock v)
          | have eb := eqbl (isBlock b.u)
        walk_at "go"
        refine vw_pl hv ?_
        refine vw_pl hv ?_
        walk_at "go"
        refine is_block_ok (n := 5) (by omega) (thg_pl hb5) (by omega) ?_
        rw [blk_is hb]
        walk_at "go"
        exact hK _ _ ⟨_, _, _, _, _, _, rfl, rfl⟩
      · first
          | (exfalso
             cases b <;> cases ex
             done)
          | (subst ex
             walk_at "go"
             refine is_block_ok (n := 7) (by omega) hv (by omega) ?_
             rw [show isBlock (.lst xs) = false from rfl]
             walk_at "go"
             refine lblock_fz (by omega) ?_
             walk_at "go"
             refine is_block_ok (n := 5) (by omega) (thg_pl hb5) (by omega) ?_
             rw [blk_is hb]
             walk_at "go"
             exact hK _ _ ⟨_, _, _, _, _, _, rfl, rfl⟩)
  · rintro ρ G ⟨a1, a2, a3, a4, a5, a6, rfl, rfl⟩
    walk_at "go"
theorem law_ok (ns : List Int) (hl : ns.length ≤ 63) (hb : ∀ z ∈ ns, PySem.Builtin.Int.intBits z ≤ 1048576) : lawOk P lv 3005 ns := law_go (m := 59) (by decide) ns hl
end LK12
end
open PySem PySem.W PyProof.Rows
set_option maxHeartbeats 0 in
theorem PySem.Challenge.cw_stemshelf_k12_what_is_a_block_holds : PySem.Challenge.rw_stemshelf_k12_what_is_a_block.Holds := by
  refine headTop ?_
  refine L2.walk_ofB (l := PySem.Challenge.rw_stemshelf_k12_what_is_a_block) (n := 63) (k := 2 * LK12.lv) (x := "_law_script") (CX := fun w => L2.CX PySem.Challenge.rw_stemshelf_k12_what_is_a_block.prog w) (sp := fun w vs H Q E => ∀ ca, Mp.spN (LK12.cx w ca) (Mp.callN LK12.P LK12.lv) _ 3005 vs H Q E) rfl (by decide) rfl ⟨rfl, by decide, by decide⟩ (fun w h Y => PySem.W.kIn_of Y) ?F (fun w H a ns hl hb _ hS ca => Mp.law_sp (c := LK12.cx w ca) (LK12.law_ok ns hl hb) hS) (fun _ _ _ _ _ h => by obtain ⟨_, _, _, _, _, _, _, _, _, _, _, _, z⟩ := h; exact z)
  case F =>
    intro w mg fa h KX G hmg
    refine' LK12.mk_top (n := LK12.lv) KX G hmg ?a0 ?l0 ?c0 ?k0 ?a1 ?l1 ?c1 ?k1 ?a2 ?l2 ?c2 ?k2 ?a3 ?l3 ?c3 ?k3 ?a4 ?l4 ?c4 ?k4 ?a5 ?l5 ?c5 ?k5 ?a6 ?l6 ?c6 ?k6 ?a7 ?l7 ?c7 ?k7 ?a8 ?l8 ?c8 ?k8 ?a9 ?l9 ?c9 ?k9 ?a10 ?l10 ?c10 ?k10 ?a11 ?l11 ?c11 ?k11 ?a12 ?l12 ?c12 ?k12 ?a13 ?l13 ?c13 ?k13 ?a14 ?l14 ?c14 ?k14 ?a15 ?l15 ?c15 ?k15 ?a16 ?l16 ?c16 ?k16 ?a17 ?l17 ?c17 ?k17 ?a18 ?l18 ?c18 ?k18 ?a19 ?l19 ?c19 ?k19 ?a20 ?l20 ?c20 ?k20 ?a21 ?l21 ?c21 ?k21 ?z0 ?z1 ?z2 ?z3 ?z4 ?z5 ?z6 ?z7 ?z8 ?z9 ?z10 ?z11 ?z12 ?z13 ?z14 ?z15 ?z16 ?z17 ?z18 ?z19 ?y0 ?y1 ?y2 ?y3 ?y4 ?y5 ?y6 ?y7 ?y8 ?y9
    (case a0 => k_is); (case l0 => k_is); (case c0 => k_is); (case k0 => k_is); (case a1 => k_is); (case l1 => k_is); (case c1 => k_is); (case k1 => k_is); (case a2 => k_is); (case l2 => k_is); (case c2 => k_is); (case k2 => k_is); (case a3 => k_is); (case l3 => k_is); (case c3 => k_is); (case k3 => k_is); (case a4 => k_is); (case l4 => k_is); (case c4 => k_is); (case k4 => k_is); (case a5 => k_is); (case l5 => k_is); (case c5 => k_is); (case k5 => k_is); (case a6 => k_is); (case l6 => k_is); (case c6 => k_is); (case k6 => k_is); (case a7 => k_is); (case l7 => k_is); (case c7 => k_is); (case k7 => k_is); (case a8 => k_is); (case l8 => k_is); (case c8 => k_is); (case k8 => k_is); (case a9 => k_is); (case l9 => k_is); (case c9 => k_is); (case k9 => k_is); (case a10 => k_is); (case l10 => k_is); (case c10 => k_is); (case k10 => k_is); (case a11 => k_is); (case l11 => k_is); (case c11 => k_is); (case k11 => k_is); (case a12 => k_is); (case l12 => k_is); (case c12 => k_is); (case k12 => k_is); (case a13 => k_is); (case l13 => k_is); (case c13 => k_is); (case k13 => k_is); (case a14 => k_is); (case l14 => k_is); (case c14 => k_is); (case k14 => k_is); (case a15 => k_is); (case l15 => k_is); (case c15 => k_is); (case k15 => k_is); (case a16 => k_is); (case l16 => k_is); (case c16 => k_is); (case k16 => k_is); (case a17 => k_is); (case l17 => k_is); (case c17 => k_is); (case k17 => k_is); (case a18 => k_is); (case l18 => k_is); (case c18 => k_is); (case k18 => k_is); (case a19 => k_is); (case l19 => k_is); (case c19 => k_is); (case k19 => k_is); (case a20 => k_is); (case l20 => k_is); (case c20 => k_is); (case k20 => k_is); (case a21 => k_is); (case l21 => k_is); (case c21 => k_is); (case k21 => k_is); (case z0 => k_is); (case z1 => k_is); (case z2 => k_is); (case z3 => k_is); (case z4 => k_is); (case z5 => k_is); (case z6 => k_is); (case z7 => k_is); (case z8 => k_is); (case z9 => k_is); (case z10 => k_is); (case z11 => k_is); (case z12 => k_is); (case z13 => k_is); (case z14 => k_is); (case z15 => k_is); (case z16 => k_is); (case z17 => k_is); (case z18 => k_is); (case z19 => k_is); (case y0 => k_is); (case y1 => k_is); (case y2 => k_is); (case y3 => k_is); (case y4 => k_is); (case y5 => k_is); (case y6 => k_is); (case y7 => k_is); (case y8 => k_is); (case y9 => k_is)
