import PyProof.Rows.All
import Wide.All
import OpenK.AllK
import Wide.FinOn
import PyProof.EqAt
import PyProof.EqKinds
import PyProof.TupleCall
import Open.SpecLaws
import KE.OsGo
import HandS.ForSpec
import HandS.ForMost
import HandS.ForExc
import HandS.CallSlots
import HandS.IsInst
import HandS.Style
import HandS.NoneIn
import HandS.Wide
import KE.GoesEnum
import HandS.TryOnly
import PySem.Challenge.RW_shapestold_k70_first_meetings_are_enough
set_option Elab.async false
set_option linter.all false
set_option maxRecDepth 100000
set_option maxHeartbeats 2000000
/-! SmX: the two own errors, each with one field (turned from a worked proof). -/
namespace PySem
namespace LowNX
open PySem.W PySem.Calls PyProof.Rows PySem.HandSPX
/-! ### the text of __init__ -/
def iA (p1 p2 : Pos) : Arguments := { posonlyargs := [], args := [{ arg := "self", annotation := none, pos := p1 }, { arg := "name", annotation := none, pos := p2 }], vararg := none, kwonlyargs := [], kw_defaults := [], kwarg := none, defaults := [] }
def iB (q1 q2 q3 q4 : Pos) : List Stmt := [.Assign [.Attribute (.Name "self" q1) "name" q2] (.Name "name" q3) q4]
def iS : Scope := { kind := .function, names := [(PySem.Str.ofString "self", .local), (PySem.Str.ofString "name", .local)], isGenerator := false, isCoroutine := false, more := [] }
/-- what the written part says of Low, at C, and of its __init__, at fI -/
structure LowNTxt (K : Frag) (mg : Str → Option Value) (C fI : Addr) : Prop where
  gC : mg "BadNumber" = some (.ref C)
  cls : ∃ nm q N bs bm sn sub ab col dd k0 k1 k2 k3 k5, K.lookup C = some (excClassObj nm q C N bs bm true sn sub ab col dd k0 k1 k2 k3 k5 "ValueError.__new__") ∧ refsVE bm = true
  sa : findIn K (.ref C) "__setattr__" = some (some (.builtin "object.__setattr__"))
  ga : findIn K (.ref C) "__getattribute__" = some (some (.builtin "BaseException.__getattribute__"))
  gg : findIn K (.ref C) "__getattr__" = some none
  noN : findIn K (.ref C) "name" = some none
  iC : findIn K (.ref C) "__init__" = some (some (.ref fI))
  tC : typeIn K (.ref fI) = some (.type "function")
  kC : keepIn K (.ref C) = true
  exC : subIn K (.ref C) (.type "BaseException") = some true
  tyC : typeIn K (.ref C) = some (.type "type")
  hdC : hasDictIn K C = true
  te : exmOne K (.ref C) (.ref C) = some true
  fn : ∃ (oc : Value) (od : Option Addr) (doc pm : Value) (an : Option Addr) (cdv ct : Value) (osl : Array (Option Value)) (p1 p2 q1 q2 q3 q4 : Pos),
    K.lookup fI = some ⟨oc, od, .func (fnOf "__init__" "BadNumber.__init__" (iA p1 p2) (iB q1 q2 q3 q4) iS .none .none doc pm an cdv ct), osl⟩ ∧ codeIn K cdv "BadNumber.__init__" = true
theorem one_size (v : Value) : [v].length ≤ sizeLine := by
  rw [sizeLine_eq]
  exact (by decide : 1 ≤ 16777216)
theorem kept_but {K : Frag} {h h' : Heap} {x : Addr} (X : K.In h) (hx : K.lookup x = none) (k : ∀ b o, b ≠ x → h.get? b = some o → h'.get? b = some o) : K.In h' := fun a o e =>
  k a o (fun z => by rw [z, hx] at e; cases e) (X a o e)
theorem ldC {M : Model} {s : Shared} {name : Str} {scope : Scope} {L a : Addr} {cd : Value} {m : Str → Option Value} {x : Str} {pos : Pos} {v : Value} {Q : Value → Shared → Prop} {A : Around} {E : Value → Shared → Prop} (hn : s.heap.Ns L m) (hv : m x = some v) (h : Q v s)
    (hk : scope.kind = .function := by rfl) (hl : (envOfC name scope L a cd).kindOf x = some .local := by rfl) (hd : (x == ("__debug__" : Str)) = false := by decide) :
    wpAny M A (eval (.Name x pos) (envOfC name scope L a cd)) Q E s := wpAny_Name (wpAny_loadName_local hk hl hn hv h) hd
/-- what __init__ leaves of a fresh exception at x -/
structure InitEnd (h h' : Heap) (x C dx t1 : Addr) (v : Value) : Prop where
  keep : ∀ b o, b ≠ x → h.get? b = some o → h'.get? b = some o
  obj : h'.get? x = some { cls := .ref C, dict := some dx, data := .fields #[.ref t1, .none, .none, .none, .bool false, .none] }
  dbig : h.objs.size ≤ dx
  dne : dx ≠ x
  ns : h'.Ns1 dx (fun y => if y = "name" then some v else none)
/-- a made Low -/
structure OwnMade (h h' : Heap) (e C d : Addr) (v : Value) : Prop where
  keep : ∀ b o, h.get? b = some o → h'.get? b = some o
  new : h.objs.size ≤ e
  obj : ∃ oe vs, h'.get? e = some oe ∧ oe.cls = .ref C ∧ oe.dict = some d ∧ oe.data = .fields vs ∧ vs[1]? = some .none
  dbig : h.objs.size ≤ d
  dne : d ≠ e
  ns : h'.Ns1 d (fun y => if y = "name" then some v else none)
section
variable {prog : Program} {w : World} {A : Around} {E : Value → Shared → Prop} {R : Result → Shared → Prop} {s : Shared} {K : Frag} {mg : Str → Option Value} {C fI : Addr}
theorem low_init (T : LowNTxt K mg C fI) {x t0 : Addr} {v : Value} (X : K.In s.heap) (hlim : s.heap.NoLimit) (hx : s.heap.get? x = some (excO C t0)) (hnx : K.lookup x = none) (hroom : A.depth < recursionLimit)
    (hq : ∀ h' tk dx, InitEnd s.heap h' x C dx t0 v → R (.ok (.ret .none)) { s with heap := h', toks := tk }) :
    codeAny (model prog w) A (.call (.ref fI) ⟨[.ref x, v], []⟩) R s := by
  obtain ⟨oc, od, doc, pm, an, cdv, ct, osl, p1, p2, q1, q2, q3, q4, ho, hcd⟩ := T.fn
  obtain ⟨nm, q, N, bs, bm, sn, sub, ab, col, dd, k0, k1, k2, k3, k5, hC, hbm⟩ := T.cls
  have hcl : clsIn K C = some { name := nm, bases := bs, mro := .ref C :: bm, ns := N, qualname := q, hasDict := true, slotNames := sn, subclasses := sub, abstract := ab, collection := col, hasDel := false } := by unfold clsIn; rw [hC] <;> rfl
  refine Att.call_fn (binds := [("self", .ref x), ("name", v)]) X hlim ho hcd hroom (BindsTo.of_eq (by first | rfl | with_unfolding_all rfl)) (by first | rfl | decide | with_unfolding_all rfl) (fun s₁ IC => ?_) rfl rfl rfl
  obtain ⟨h₁, tk₁, rfl⟩ := IC.toInCall.same
  have k : ∀ b o, s.heap.get? b = some o → h₁.get? b = some o := IC.toInCall.keep
  have hn := IC.toInCall.ns
  have hxL : s.heap.objs.size ≠ x := Nat.ne_of_gt (Heap.lt_size hx)
  have X₁ : K.In h₁ := X.keeps k
  have hx₁ := k _ _ hx
  -- self.by = by
  show wpAny _ _ (execs _ _) _ _ _
  refine wpAny_execs_cons (plainObj_wpAny_Assign_Attribute ?_)
  refine ldC (v := v) hn (by first | rfl | with_unfolding_all rfl | kernel_rfl) (ldC (v := .ref x) hn (by first | rfl | with_unfolding_all rfl | kernel_rfl) ?_)
  refine set_plain X₁ (ox := excO C t0) (od := none) ⟨hx₁, rfl, rfl, trivial⟩ T.sa ?_
  refine exc_osa X₁ hx₁ hcl (show refsVE (.ref C :: bm) = true from hbm) rfl T.noN (fun h₃ tk₃ dx k₃ dn dne hx₃ hn₃ => ?_)
  show wpAny _ _ (execs _ _) _ _ _
  have z : s.heap.objs.size < h₁.objs.size := hn.lt
  exact wpAny_execs_nil (hq h₃ tk₃ dx ⟨fun b o hb e => k₃ b o hb (k b o e), hx₃, Nat.le_of_lt (Nat.lt_of_lt_of_le z dn), dne, hn₃⟩)
theorem low_made (T : LowNTxt K mg C fI) {v : Value} (X : K.In s.heap) (hlim : s.heap.NoLimit) (hroom : A.depth + 1 < recursionLimit)
    (hq : ∀ h' tk e d, OwnMade s.heap h' e C d v → R (.ok (.ret (.ref e))) { s with heap := h', toks := tk }) :
    codeAny (model prog w) A (.call (.ref C) ⟨[v], []⟩) R s := by
  obtain ⟨nm, q, N, bs, bm, sn, sub, ab, col, dd, k0, k1, k2, k3, k5, hC, hbm⟩ := T.cls
  obtain ⟨hp, g, dr, tk, os⟩ := s
  have k : ∀ b o, hp.get? b = some o → ((hp.push (kdv_tup [v])).push (excO C hp.objs.size)).get? b = some o := fun b o e => Heap.get?_push_of_some _ (Heap.get?_push_of_some _ e)
  have hget : ((hp.push (kdv_tup [v])).push (excO C hp.objs.size)).get? (hp.objs.size + 1) = some (excO C hp.objs.size) := by heap_get
  have hnx : K.lookup (hp.objs.size + 1) = none := by
    cases e : K.lookup (hp.objs.size + 1) with
    | none => rfl
    | some o =>
      have z : hp.get? (hp.objs.size + 1) = some o := X _ _ e
      exact absurd (Nat.lt_of_succ_lt (Heap.lt_size z)) (Nat.lt_irrefl _)
  refine call_own F.excBase_ValueError (fun X => refsVE_contains X bm hbm) (X _ _ hC) (looks_findIn X T.iC) (fun self => bind_fn X self T.tC) (one_size v) ?_
  refine low_init (s := ⟨(hp.push (kdv_tup [v])).push (excO C hp.objs.size), g, dr, tk, os⟩) T (X.keeps k) (hlim.keeps k) hget hnx ?_ fun h' tk' dx ⟨k', hx, dn, dne, hns⟩ => ?_
  · show A.depth + 1 < recursionLimit
    exact hroom
  · have old : ∀ b o, hp.get? b = some o → h'.get? b = some o := fun b o e => k' b o (Nat.ne_of_lt (Nat.lt_succ_of_lt (Heap.lt_size e))) (k b o e)
    have z : hp.objs.size + 1 + 1 ≤ dx := by
      first
        | (simpa only [Heap.size_push] using dn)
        | exact dn
        | (have q := dn; rw [Heap.size_push, Heap.size_push] at q; exact q)
    exact ⟨rfl, hq h' tk' (hp.objs.size + 1) dx ⟨old, Nat.le_succ _, ⟨_, _, hx, rfl, rfl, rfl, rfl⟩, Nat.le_trans (Nat.le_trans (Nat.le_succ _) (Nat.le_succ _)) z, dne, hns⟩⟩
end
end LowNX
end PySem
namespace L2
open PySem PySem.Spec PyProof.Rows
theorem relO_lowN {v : V} {v' : Value} (r : RelV v v') (f : Str) : RelO (List.lookup f [(("name" : Str), v)]) (if f = "name" then some v' else none) := by
  by_cases hw : f = "name"
  · subst hw
    rw [if_pos rfl]
    have q : List.lookup ("name" : Str) [(("name" : Str), v)] = some v := by simp [List.lookup]
    rw [q]
    exact r
  · rw [if_neg hw]
    have qw : (f == ("name" : Str)) = false := by simpa using hw
    have q2 : List.lookup f [(("name" : Str), v)] = none := by simp [List.lookup, qw]
    rw [q2]
    trivial
section
variable {X : Cx} {C fI : Addr}
/-- Low(e) -/
def tMkLowN (C : Addr) (ta : TA) : St → Hp → XK → Prop := fun σ H Q => ta σ H fun vs H1 => ∃ v, vs = [v] ∧ ∀ d, H1 d = none → Q (.ref C) (some d) (upd H1 d (.xd [(("name" : Str), v)]))
theorem pmk_lowN {a : Expr} {ta : TA} {p pos : Pos} {k : Nat} (T : PySem.LowNX.LowNTxt X.K X.mg C fI) (hr : Room k X.A) (ha : PA X [a] ta) (hg : Gl X "BadNumber" := by rfl)
    (he : starEach (a :: []) X.env = (false, eval a X.env) :: starEach [] X.env := by rfl) (hpl : (backTo pos (starEach [] X.env)).any (·.1) = false := by rfl) :
    PMk X (.Call (.Name "BadNumber" p) [a] [] pos) (tMkLowN C ta) := by
  intro pins s σ H Q I h
  refine wpAny_Call_Name_kw (ld_glob I hg T.gC ?_)
  refine PySem.W.callWith_K (h₀ := X.base) I.ok.mod.kin T.kC (thn (ha.run pos pins s σ H _ I h) fun us s1 hh => ?_) he hpl
  obtain ⟨vs, H1, I1, r1, v, ev, q1⟩ := hh
  subst ev
  refine ⟨I1.kIn, ?_⟩
  cases r1 with
  | cons rv rn =>
    rename_i v' us'
    cases rn
    show wpAny _ _ (call (.ref C) [v']) _ _ _
    have hlim := I1.nolimit
    obtain ⟨hp, g, dr, tk, os⟩ := s1
    refine wpAny_call (PySem.LowNX.low_made T I1.kIn hlim (by have := hr.dp; omega) fun h' tk' e d M => ?_)
    show MkP X pins σ Q (.ref e) ⟨h', g, dr, tk', os⟩
    obtain ⟨oe, fv, hoe, hc, hd, hdat, h1⟩ := M.obj
    have hns := M.ns
    obtain ⟨G', g1, g2⟩ := restrict h' fun b => decide (b ≠ e)
    have gk : ∀ b, b ≠ e → G'.get? b = h'.get? b := fun b hb => g1 b (decide_eq_true hb)
    have ge : G'.get? e = none := g2 e (by simp)
    have old : ∀ b o, hp.get? b = some o → G'.get? b = some o := fun b o q => (gk b (Nat.ne_of_lt (Nat.lt_of_lt_of_le (Heap.lt_size q) M.new))).trans (M.keep b o q)
    have ob : ObjOk X.prog X.w (upd H1 d (.xd [(("name" : Str), v)])) G' d (.xd [(("name" : Str), v)]) :=
      ⟨_, hns.at (fun o q => (gk d M.dne).trans q), fun f => relO_lowN rv f⟩
    have J : Inv X pins σ (upd H1 d (.xd [(("name" : Str), v)])) ⟨G', g, dr, tk', os⟩ := I1.laid (t' := tk') old M.dbig ob
    refine ⟨e, oe, fv, ⟨G', g, dr, tk', os⟩, _, .ref C, some d, rfl, J, fun b o q => ?_, ge, hoe, ⟨hc, hd⟩, hdat, h1, ?_, rfl, I1.bare, raises_own T.exC T.tyC, q1 d (I1.hok.fresh M.dbig)⟩
    · by_cases hb : b = e
      · have q' : G'.get? b = some o := q
        rw [hb, ge] at q'; cases q'
      · exact (gk b hb).symm.trans q
    · rw [upd_ne (Ne.symm M.dne)]
      exact I1.hok.fresh M.new
/-- raise Low(e) -/
def tRaiseLowN (C : Addr) (W : WX) (ta : TA) : TS := fun _ σ H => tMkLowN C ta σ H fun cls d H' => W cls d σ H'
theorem ps_raiseLowN {a : Expr} {ta : TA} {W : WX} {p pos pos2 : Pos} {k : Nat} (hc : X.calm = true) (T : PySem.LowNX.LowNTxt X.K X.mg C fI) (hr : Room k X.A) (tk : Takes X W) (ha : PA X [a] ta) (hg : Gl X "BadNumber" := by rfl)
    (he : starEach (a :: []) X.env = (false, eval a X.env) :: starEach [] X.env := by rfl) (hpl : (backTo pos (starEach [] X.env)).any (·.1) = false := by rfl) :
    PS X (.Raise (some (.Call (.Name "BadNumber" p) [a] [] pos)) none pos2) (tRaiseLowN C W ta) := ps_raise hc tk (pmk_lowN T hr ha hg he hpl)
/-- low.by, low the exception that the suite holds (at a; its class cls, its dict d) -/
def tByLowN (C : Addr) (a : Addr) (cls : Value) (d : Option Addr) (te : TE) : TE := fun σ H Q => te σ H fun x H1 => x = .ref a ∧ cls = .ref C ∧ ∃ (dd : Addr) (v : V), d = some dd ∧ H1 dd = some (.xd [(("name" : Str), v)]) ∧ Q v H1
theorem pe_byLowN {a : Addr} {oe : Obj} {cls : Value} {d : Option Addr} {pn : List (Addr × Obj)} {e : Expr} {te : TE} {pos : Pos} (T : PySem.LowNX.LowNTxt X.K X.mg C fI) (hz : Zc cls d oe) (hf : ∃ vs, oe.data = .fields vs) (he : PE (X.suite a ((a, oe) :: pn)) e te)
    (hb : attributeBase e "name" X.env (eval e X.env) = eval e X.env := by rfl) :
    PE (X.suite a ((a, oe) :: pn)) (.Attribute e "name" pos) (tByLowN C a cls d te) := by
  refine ⟨fun pins s σ H Q I h => ?_⟩
  refine attr_of hb (thn (he.run pins s σ H _ I h) fun u s1 hh => ?_)
  obtain ⟨x, H1, I1, rx, ex, ec, dd, v, ed, ea, q⟩ := hh
  subst ex
  obtain rfl : u = Value.ref a := rx
  subst ec
  subst ed
  obtain ⟨ha, _⟩ := I1.pin (a, oe) (List.mem_append_left _ List.mem_cons_self)
  obtain ⟨vs, hd⟩ := hf
  have hx : ObjOk X.prog X.w H1 s1.heap dd (.xd [(("name" : Str), v)]) := I1.hok dd _ ea
  obtain ⟨mA, hns, hr⟩ := hx
  obtain ⟨od, ho, hl⟩ := lookIn_ns hns
  have l : List.lookup ("name" : Str) [(("name" : Str), v)] = some v := by simp [List.lookup]
  obtain ⟨u, hu, ru⟩ := RelO.some_of (v := v) (o := mA "name") (by rw [← l]; exact hr "name")
  have J : PySem.W.InstAt s1.heap a oe C (some od) := ⟨ha, hz.1, by unfold PySem.W.notCls; rw [hd] <;> rfl, by rw [hz.2]; exact ho⟩
  exact HandSPX.exc_get I1.kIn J T.ga T.gg T.exC (PySem.W.findObj_own T.hdC T.noN rfl (by rw [hl, hu])) (handed_of ru) ⟨v, H1, I1.tok _, ru, q⟩
end
end L2


namespace PySem
namespace LowVX
open PySem.W PySem.Calls PyProof.Rows PySem.HandSPX
/-! ### the text of __init__ -/
def iA (p1 p2 : Pos) : Arguments := { posonlyargs := [], args := [{ arg := "self", annotation := none, pos := p1 }, { arg := "place", annotation := none, pos := p2 }], vararg := none, kwonlyargs := [], kw_defaults := [], kwarg := none, defaults := [] }
def iB (q1 q2 q3 q4 : Pos) : List Stmt := [.Assign [.Attribute (.Name "self" q1) "place" q2] (.Name "place" q3) q4]
def iS : Scope := { kind := .function, names := [(PySem.Str.ofString "self", .local), (PySem.Str.ofString "place", .local)], isGenerator := false, isCoroutine := false, more := [] }
/-- what the written part says of Low, at C, and of its __init__, at fI -/
structure LowVTxt (K : Frag) (mg : Str → Option Value) (C fI : Addr) : Prop where
  gC : mg "BadValue" = some (.ref C)
  cls : ∃ nm q N bs bm sn sub ab col dd k0 k1 k2 k3 k5, K.lookup C = some (excClassObj nm q C N bs bm true sn sub ab col dd k0 k1 k2 k3 k5 "ValueError.__new__") ∧ refsVE bm = true
  sa : findIn K (.ref C) "__setattr__" = some (some (.builtin "object.__setattr__"))
  ga : findIn K (.ref C) "__getattribute__" = some (some (.builtin "BaseException.__getattribute__"))
  gg : findIn K (.ref C) "__getattr__" = some none
  noN : findIn K (.ref C) "place" = some none
  iC : findIn K (.ref C) "__init__" = some (some (.ref fI))
  tC : typeIn K (.ref fI) = some (.type "function")
  kC : keepIn K (.ref C) = true
  exC : subIn K (.ref C) (.type "BaseException") = some true
  tyC : typeIn K (.ref C) = some (.type "type")
  hdC : hasDictIn K C = true
  te : exmOne K (.ref C) (.ref C) = some true
  fn : ∃ (oc : Value) (od : Option Addr) (doc pm : Value) (an : Option Addr) (cdv ct : Value) (osl : Array (Option Value)) (p1 p2 q1 q2 q3 q4 : Pos),
    K.lookup fI = some ⟨oc, od, .func (fnOf "__init__" "BadValue.__init__" (iA p1 p2) (iB q1 q2 q3 q4) iS .none .none doc pm an cdv ct), osl⟩ ∧ codeIn K cdv "BadValue.__init__" = true
theorem one_size (v : Value) : [v].length ≤ sizeLine := by
  rw [sizeLine_eq]
  exact (by decide : 1 ≤ 16777216)
theorem kept_but {K : Frag} {h h' : Heap} {x : Addr} (X : K.In h) (hx : K.lookup x = none) (k : ∀ b o, b ≠ x → h.get? b = some o → h'.get? b = some o) : K.In h' := fun a o e =>
  k a o (fun z => by rw [z, hx] at e; cases e) (X a o e)
theorem ldC {M : Model} {s : Shared} {name : Str} {scope : Scope} {L a : Addr} {cd : Value} {m : Str → Option Value} {x : Str} {pos : Pos} {v : Value} {Q : Value → Shared → Prop} {A : Around} {E : Value → Shared → Prop} (hn : s.heap.Ns L m) (hv : m x = some v) (h : Q v s)
    (hk : scope.kind = .function := by rfl) (hl : (envOfC name scope L a cd).kindOf x = some .local := by rfl) (hd : (x == ("__debug__" : Str)) = false := by decide) :
    wpAny M A (eval (.Name x pos) (envOfC name scope L a cd)) Q E s := wpAny_Name (wpAny_loadName_local hk hl hn hv h) hd
/-- what __init__ leaves of a fresh exception at x -/
structure InitEnd (h h' : Heap) (x C dx t1 : Addr) (v : Value) : Prop where
  keep : ∀ b o, b ≠ x → h.get? b = some o → h'.get? b = some o
  obj : h'.get? x = some { cls := .ref C, dict := some dx, data := .fields #[.ref t1, .none, .none, .none, .bool false, .none] }
  dbig : h.objs.size ≤ dx
  dne : dx ≠ x
  ns : h'.Ns1 dx (fun y => if y = "place" then some v else none)
/-- a made Low -/
structure OwnMade (h h' : Heap) (e C d : Addr) (v : Value) : Prop where
  keep : ∀ b o, h.get? b = some o → h'.get? b = some o
  new : h.objs.size ≤ e
  obj : ∃ oe vs, h'.get? e = some oe ∧ oe.cls = .ref C ∧ oe.dict = some d ∧ oe.data = .fields vs ∧ vs[1]? = some .none
  dbig : h.objs.size ≤ d
  dne : d ≠ e
  ns : h'.Ns1 d (fun y => if y = "place" then some v else none)
section
variable {prog : Program} {w : World} {A : Around} {E : Value → Shared → Prop} {R : Result → Shared → Prop} {s : Shared} {K : Frag} {mg : Str → Option Value} {C fI : Addr}
theorem low_init (T : LowVTxt K mg C fI) {x t0 : Addr} {v : Value} (X : K.In s.heap) (hlim : s.heap.NoLimit) (hx : s.heap.get? x = some (excO C t0)) (hnx : K.lookup x = none) (hroom : A.depth < recursionLimit)
    (hq : ∀ h' tk dx, InitEnd s.heap h' x C dx t0 v → R (.ok (.ret .none)) { s with heap := h', toks := tk }) :
    codeAny (model prog w) A (.call (.ref fI) ⟨[.ref x, v], []⟩) R s := by
  obtain ⟨oc, od, doc, pm, an, cdv, ct, osl, p1, p2, q1, q2, q3, q4, ho, hcd⟩ := T.fn
  obtain ⟨nm, q, N, bs, bm, sn, sub, ab, col, dd, k0, k1, k2, k3, k5, hC, hbm⟩ := T.cls
  have hcl : clsIn K C = some { name := nm, bases := bs, mro := .ref C :: bm, ns := N, qualname := q, hasDict := true, slotNames := sn, subclasses := sub, abstract := ab, collection := col, hasDel := false } := by unfold clsIn; rw [hC] <;> rfl
  refine Att.call_fn (binds := [("self", .ref x), ("place", v)]) X hlim ho hcd hroom (BindsTo.of_eq (by first | rfl | with_unfolding_all rfl)) (by first | rfl | decide | with_unfolding_all rfl) (fun s₁ IC => ?_) rfl rfl rfl
  obtain ⟨h₁, tk₁, rfl⟩ := IC.toInCall.same
  have k : ∀ b o, s.heap.get? b = some o → h₁.get? b = some o := IC.toInCall.keep
  have hn := IC.toInCall.ns
  have hxL : s.heap.objs.size ≠ x := Nat.ne_of_gt (Heap.lt_size hx)
  have X₁ : K.In h₁ := X.keeps k
  have hx₁ := k _ _ hx
  -- self.by = by
  show wpAny _ _ (execs _ _) _ _ _
  refine wpAny_execs_cons (plainObj_wpAny_Assign_Attribute ?_)
  refine ldC (v := v) hn (by first | rfl | with_unfolding_all rfl | kernel_rfl) (ldC (v := .ref x) hn (by first | rfl | with_unfolding_all rfl | kernel_rfl) ?_)
  refine set_plain X₁ (ox := excO C t0) (od := none) ⟨hx₁, rfl, rfl, trivial⟩ T.sa ?_
  refine exc_osa X₁ hx₁ hcl (show refsVE (.ref C :: bm) = true from hbm) rfl T.noN (fun h₃ tk₃ dx k₃ dn dne hx₃ hn₃ => ?_)
  show wpAny _ _ (execs _ _) _ _ _
  have z : s.heap.objs.size < h₁.objs.size := hn.lt
  exact wpAny_execs_nil (hq h₃ tk₃ dx ⟨fun b o hb e => k₃ b o hb (k b o e), hx₃, Nat.le_of_lt (Nat.lt_of_lt_of_le z dn), dne, hn₃⟩)
theorem low_made (T : LowVTxt K mg C fI) {v : Value} (X : K.In s.heap) (hlim : s.heap.NoLimit) (hroom : A.depth + 1 < recursionLimit)
    (hq : ∀ h' tk e d, OwnMade s.heap h' e C d v → R (.ok (.ret (.ref e))) { s with heap := h', toks := tk }) :
    codeAny (model prog w) A (.call (.ref C) ⟨[v], []⟩) R s := by
  obtain ⟨nm, q, N, bs, bm, sn, sub, ab, col, dd, k0, k1, k2, k3, k5, hC, hbm⟩ := T.cls
  obtain ⟨hp, g, dr, tk, os⟩ := s
  have k : ∀ b o, hp.get? b = some o → ((hp.push (kdv_tup [v])).push (excO C hp.objs.size)).get? b = some o := fun b o e => Heap.get?_push_of_some _ (Heap.get?_push_of_some _ e)
  have hget : ((hp.push (kdv_tup [v])).push (excO C hp.objs.size)).get? (hp.objs.size + 1) = some (excO C hp.objs.size) := by heap_get
  have hnx : K.lookup (hp.objs.size + 1) = none := by
    cases e : K.lookup (hp.objs.size + 1) with
    | none => rfl
    | some o =>
      have z : hp.get? (hp.objs.size + 1) = some o := X _ _ e
      exact absurd (Nat.lt_of_succ_lt (Heap.lt_size z)) (Nat.lt_irrefl _)
  refine call_own F.excBase_ValueError (fun X => refsVE_contains X bm hbm) (X _ _ hC) (looks_findIn X T.iC) (fun self => bind_fn X self T.tC) (one_size v) ?_
  refine low_init (s := ⟨(hp.push (kdv_tup [v])).push (excO C hp.objs.size), g, dr, tk, os⟩) T (X.keeps k) (hlim.keeps k) hget hnx ?_ fun h' tk' dx ⟨k', hx, dn, dne, hns⟩ => ?_
  · show A.depth + 1 < recursionLimit
    exact hroom
  · have old : ∀ b o, hp.get? b = some o → h'.get? b = some o := fun b o e => k' b o (Nat.ne_of_lt (Nat.lt_succ_of_lt (Heap.lt_size e))) (k b o e)
    have z : hp.objs.size + 1 + 1 ≤ dx := by
      first
        | (simpa only [Heap.size_push] using dn)
        | exact dn
        | (have q := dn; rw [Heap.size_push, Heap.size_push] at q; exact q)
    exact ⟨rfl, hq h' tk' (hp.objs.size + 1) dx ⟨old, Nat.le_succ _, ⟨_, _, hx, rfl, rfl, rfl, rfl⟩, Nat.le_trans (Nat.le_trans (Nat.le_succ _) (Nat.le_succ _)) z, dne, hns⟩⟩
end
end LowVX
end PySem
namespace L2
open PySem PySem.Spec PyProof.Rows
theorem relO_lowV {v : V} {v' : Value} (r : RelV v v') (f : Str) : RelO (List.lookup f [(("place" : Str), v)]) (if f = "place" then some v' else none) := by
  by_cases hw : f = "place"
  · subst hw
    rw [if_pos rfl]
    have q : List.lookup ("place" : Str) [(("place" : Str), v)] = some v := by simp [List.lookup]
    rw [q]
    exact r
  · rw [if_neg hw]
    have qw : (f == ("place" : Str)) = false := by simpa using hw
    have q2 : List.lookup f [(("place" : Str), v)] = none := by simp [List.lookup, qw]
    rw [q2]
    trivial
section
variable {X : Cx} {C fI : Addr}
/-- Low(e) -/
def tMkLowV (C : Addr) (ta : TA) : St → Hp → XK → Prop := fun σ H Q => ta σ H fun vs H1 => ∃ v, vs = [v] ∧ ∀ d, H1 d = none → Q (.ref C) (some d) (upd H1 d (.xd [(("place" : Str), v)]))
theorem pmk_lowV {a : Expr} {ta : TA} {p pos : Pos} {k : Nat} (T : PySem.LowVX.LowVTxt X.K X.mg C fI) (hr : Room k X.A) (ha : PA X [a] ta) (hg : Gl X "BadValue" := by rfl)
    (he : starEach (a :: []) X.env = (false, eval a X.env) :: starEach [] X.env := by rfl) (hpl : (backTo pos (starEach [] X.env)).any (·.1) = false := by rfl) :
    PMk X (.Call (.Name "BadValue" p) [a] [] pos) (tMkLowV C ta) := by
  intro pins s σ H Q I h
  refine wpAny_Call_Name_kw (ld_glob I hg T.gC ?_)
  refine PySem.W.callWith_K (h₀ := X.base) I.ok.mod.kin T.kC (thn (ha.run pos pins s σ H _ I h) fun us s1 hh => ?_) he hpl
  obtain ⟨vs, H1, I1, r1, v, ev, q1⟩ := hh
  subst ev
  refine ⟨I1.kIn, ?_⟩
  cases r1 with
  | cons rv rn =>
    rename_i v' us'
    cases rn
    show wpAny _ _ (call (.ref C) [v']) _ _ _
    have hlim := I1.nolimit
    obtain ⟨hp, g, dr, tk, os⟩ := s1
    refine wpAny_call (PySem.LowVX.low_made T I1.kIn hlim (by have := hr.dp; omega) fun h' tk' e d M => ?_)
    show MkP X pins σ Q (.ref e) ⟨h', g, dr, tk', os⟩
    obtain ⟨oe, fv, hoe, hc, hd, hdat, h1⟩ := M.obj
    have hns := M.ns
    obtain ⟨G', g1, g2⟩ := restrict h' fun b => decide (b ≠ e)
    have gk : ∀ b, b ≠ e → G'.get? b = h'.get? b := fun b hb => g1 b (decide_eq_true hb)
    have ge : G'.get? e = none := g2 e (by simp)
    have old : ∀ b o, hp.get? b = some o → G'.get? b = some o := fun b o q => (gk b (Nat.ne_of_lt (Nat.lt_of_lt_of_le (Heap.lt_size q) M.new))).trans (M.keep b o q)
    have ob : ObjOk X.prog X.w (upd H1 d (.xd [(("place" : Str), v)])) G' d (.xd [(("place" : Str), v)]) :=
      ⟨_, hns.at (fun o q => (gk d M.dne).trans q), fun f => relO_lowV rv f⟩
    have J : Inv X pins σ (upd H1 d (.xd [(("place" : Str), v)])) ⟨G', g, dr, tk', os⟩ := I1.laid (t' := tk') old M.dbig ob
    refine ⟨e, oe, fv, ⟨G', g, dr, tk', os⟩, _, .ref C, some d, rfl, J, fun b o q => ?_, ge, hoe, ⟨hc, hd⟩, hdat, h1, ?_, rfl, I1.bare, raises_own T.exC T.tyC, q1 d (I1.hok.fresh M.dbig)⟩
    · by_cases hb : b = e
      · have q' : G'.get? b = some o := q
        rw [hb, ge] at q'; cases q'
      · exact (gk b hb).symm.trans q
    · rw [upd_ne (Ne.symm M.dne)]
      exact I1.hok.fresh M.new
/-- raise Low(e) -/
def tRaiseLowV (C : Addr) (W : WX) (ta : TA) : TS := fun _ σ H => tMkLowV C ta σ H fun cls d H' => W cls d σ H'
theorem ps_raiseLowV {a : Expr} {ta : TA} {W : WX} {p pos pos2 : Pos} {k : Nat} (hc : X.calm = true) (T : PySem.LowVX.LowVTxt X.K X.mg C fI) (hr : Room k X.A) (tk : Takes X W) (ha : PA X [a] ta) (hg : Gl X "BadValue" := by rfl)
    (he : starEach (a :: []) X.env = (false, eval a X.env) :: starEach [] X.env := by rfl) (hpl : (backTo pos (starEach [] X.env)).any (·.1) = false := by rfl) :
    PS X (.Raise (some (.Call (.Name "BadValue" p) [a] [] pos)) none pos2) (tRaiseLowV C W ta) := ps_raise hc tk (pmk_lowV T hr ha hg he hpl)
/-- low.by, low the exception that the suite holds (at a; its class cls, its dict d) -/
def tByLowV (C : Addr) (a : Addr) (cls : Value) (d : Option Addr) (te : TE) : TE := fun σ H Q => te σ H fun x H1 => x = .ref a ∧ cls = .ref C ∧ ∃ (dd : Addr) (v : V), d = some dd ∧ H1 dd = some (.xd [(("place" : Str), v)]) ∧ Q v H1
theorem pe_byLowV {a : Addr} {oe : Obj} {cls : Value} {d : Option Addr} {pn : List (Addr × Obj)} {e : Expr} {te : TE} {pos : Pos} (T : PySem.LowVX.LowVTxt X.K X.mg C fI) (hz : Zc cls d oe) (hf : ∃ vs, oe.data = .fields vs) (he : PE (X.suite a ((a, oe) :: pn)) e te)
    (hb : attributeBase e "place" X.env (eval e X.env) = eval e X.env := by rfl) :
    PE (X.suite a ((a, oe) :: pn)) (.Attribute e "place" pos) (tByLowV C a cls d te) := by
  refine ⟨fun pins s σ H Q I h => ?_⟩
  refine attr_of hb (thn (he.run pins s σ H _ I h) fun u s1 hh => ?_)
  obtain ⟨x, H1, I1, rx, ex, ec, dd, v, ed, ea, q⟩ := hh
  subst ex
  obtain rfl : u = Value.ref a := rx
  subst ec
  subst ed
  obtain ⟨ha, _⟩ := I1.pin (a, oe) (List.mem_append_left _ List.mem_cons_self)
  obtain ⟨vs, hd⟩ := hf
  have hx : ObjOk X.prog X.w H1 s1.heap dd (.xd [(("place" : Str), v)]) := I1.hok dd _ ea
  obtain ⟨mA, hns, hr⟩ := hx
  obtain ⟨od, ho, hl⟩ := lookIn_ns hns
  have l : List.lookup ("place" : Str) [(("place" : Str), v)] = some v := by simp [List.lookup]
  obtain ⟨u, hu, ru⟩ := RelO.some_of (v := v) (o := mA "place") (by rw [← l]; exact hr "place")
  have J : PySem.W.InstAt s1.heap a oe C (some od) := ⟨ha, hz.1, by unfold PySem.W.notCls; rw [hd] <;> rfl, by rw [hz.2]; exact ho⟩
  exact HandSPX.exc_get I1.kIn J T.ga T.gg T.exC (PySem.W.findObj_own T.hdC T.noN rfl (by rw [hl, hu])) (handed_of ru) ⟨v, H1, I1.tok _, ru, q⟩
end
end L2



set_option Elab.async false
set_option linter.all false
set_option maxRecDepth 100000
set_option maxHeartbeats 2000000
/-! Sm0: data over the abstract heap, worlds (a seen part G of the heap H), readings against plain functions. -/
namespace Sm
open PySem PySem.Spec PyProof.Rows L2

/-- the end of an expression: data, an own error (which, what it carries), or nothing said -/
inductive R (α : Type) where
  | ok (a : α)
  | exc (n : Nat) (x : PyData)
  | bad
def R.bind {α β : Type} : R α → (α → R β) → R β
  | .ok a, f => f a
  | .exc n x, _ => .exc n x
  | .bad, _ => .bad
def R.of {α : Type} : Option α → R α
  | some a => .ok a
  | none => .bad

mutual
inductive Rp (H : Hp) : V → PyData → Prop
  | non : Rp H .non .none
  | bl (b : Bool) : Rp H (.bl b) (.bool b)
  | int (i : Int) : Rp H (.int i) (.int i)
  | str (x : Str) : Rp H (.str x) (.str x)
  | lst {a : Addr} {xs : List V} {ds : List PyData} : H a = some (.lst xs) → RpAll H xs ds → Rp H (.ref a) (.list ds)
  | tup {a : Addr} {xs : List V} {ds : List PyData} : H a = some (.tup xs) → RpAll H xs ds → Rp H (.ref a) (.tuple ds)
inductive RpAll (H : Hp) : List V → List PyData → Prop
  | nil : RpAll H [] []
  | cons {v : V} {vs : List V} {d : PyData} {ds : List PyData} : Rp H v d → RpAll H vs ds → RpAll H (v :: vs) (d :: ds)
end

mutual
theorem Rp.mono {G H : Hp} (e : Same G H) : ∀ {v : V} {d : PyData}, Rp G v d → Rp H v d
  | _, _, .non => .non
  | _, _, .bl b => .bl b
  | _, _, .int i => .int i
  | _, _, .str x => .str x
  | _, _, .lst h k => .lst (e _ _ h) (RpAll.mono e k)
  | _, _, .tup h k => .tup (e _ _ h) (RpAll.mono e k)
theorem RpAll.mono {G H : Hp} (e : Same G H) : ∀ {vs : List V} {ds : List PyData}, RpAll G vs ds → RpAll H vs ds
  | _, _, .nil => .nil
  | _, _, .cons h k => .cons (Rp.mono e h) (RpAll.mono e k)
end
mutual
theorem Rp.dp {K : PySem.W.Frag} {H : Hp} : ∀ {v : V} {d : PyData}, Rp H v d → Dp K H v d
  | _, _, .non => .non
  | _, _, .bl b => .bl b
  | _, _, .int i => .int i
  | _, _, .str x => .str x
  | _, _, .lst h k => .lst (SqL.of h) (RpAll.dp k)
  | _, _, .tup h k => .tup (SqT.of h) (RpAll.dp k)
theorem RpAll.dp {K : PySem.W.Frag} {H : Hp} : ∀ {vs : List V} {ds : List PyData}, RpAll H vs ds → DpAll K H vs ds
  | _, _, .nil => .nil
  | _, _, .cons h k => .cons (Rp.dp h) (RpAll.dp k)
end
theorem RpAll.length {H : Hp} : ∀ {vs : List V} {ds : List PyData}, RpAll H vs ds → vs.length = ds.length
  | _, _, .nil => rfl
  | _, _, .cons _ k => congrArg (· + 1) (RpAll.length k)
theorem RpAll.get {H : Hp} : ∀ {vs : List V} {ds : List PyData} {i : Nat} {d : PyData}, RpAll H vs ds → ds[i]? = some d → ∃ v, vs[i]? = some v ∧ Rp H v d
  | _, _, _, _, .nil, e => by simp at e
  | _, _, 0, _, .cons h _, e => by simp at e; subst e; exact ⟨_, rfl, h⟩
  | _, _, i + 1, _, .cons _ k, e => by
    obtain ⟨v, h1, h2⟩ := RpAll.get (i := i) k (by simpa using e)
    exact ⟨v, by simpa using h1, h2⟩
theorem RpAll.append {H : Hp} : ∀ {vs ws : List V} {ds es : List PyData}, RpAll H vs ds → RpAll H ws es → RpAll H (vs ++ ws) (ds ++ es)
  | _, _, _, _, .nil, s => s
  | _, _, _, _, .cons h k, s => .cons h (RpAll.append k s)
theorem RpAll.take {H : Hp} : ∀ {vs : List V} {ds : List PyData} (n : Nat), RpAll H vs ds → RpAll H (vs.take n) (ds.take n)
  | _, _, 0, _ => .nil
  | _, _, _ + 1, .nil => .nil
  | _, _, n + 1, .cons h k => .cons h (RpAll.take n k)
theorem RpAll.drop {H : Hp} : ∀ {vs : List V} {ds : List PyData} (n : Nat), RpAll H vs ds → RpAll H (vs.drop n) (ds.drop n)
  | _, _, 0, h => h
  | _, _, _ + 1, .nil => .nil
  | _, _, n + 1, .cons _ k => RpAll.drop n k
theorem RpAll.set {H : Hp} {v : V} {d : PyData} (h : Rp H v d) : ∀ {vs : List V} {ds : List PyData} (n : Nat), RpAll H vs ds → RpAll H (vs.set n v) (ds.set n d)
  | _, _, _, .nil => .nil
  | _, _, 0, .cons _ k => .cons h k
  | _, _, n + 1, .cons q k => .cons q (RpAll.set h n k)
theorem RpAll.rev {H : Hp} : ∀ {vs : List V} {ds : List PyData}, RpAll H vs ds → RpAll H vs.reverse ds.reverse
  | _, _, .nil => .nil
  | _, _, .cons h k => by
    rw [List.reverse_cons, List.reverse_cons]
    exact RpAll.append (RpAll.rev k) (.cons h .nil)
theorem RpAll.ints {H : Hp} : ∀ (ns : List Int), RpAll H (ns.map V.int) (ns.map PyData.int)
  | [] => .nil
  | n :: r => .cons (.int n) (RpAll.ints r)
theorem RpAll.ofInts {H : Hp} : ∀ {vs : List V} {ns : List Int}, RpAll H vs (ns.map PyData.int) → vs = ns.map V.int
  | _, [], .nil => rfl
  | _, n :: r, .cons h k => by
    cases h
    rw [RpAll.ofInts k]
    rfl
theorem Rp.ofInt {H : Hp} {v : V} {i : Int} (h : Rp H v (.int i)) : v = .int i := by cases h; rfl
theorem Rp.ofBool {H : Hp} {v : V} {b : Bool} (h : Rp H v (.bool b)) : v = .bl b := by cases h; rfl

/-! ### worlds -/
/-- what may be changed -/
def isM : HO → Bool
  | .lst _ => true
  | .ins _ _ _ => true
  | .dK _ => true
  | .dT _ => true
  | .set _ _ => true
  | _ => false
structure Stp (G H G' H' : Hp) : Prop where
  g : Same G G'
  h : Same H H'
  s : Same G' H'
  k : ∀ a o, H a = some o → isM o = true → G a = none → G' a = none
theorem Stp.refl {G H : Hp} (s : Same G H) : Stp G H G H := ⟨Same.refl G, Same.refl H, s, fun _ _ _ _ h => h⟩
theorem Stp.trans {G H G1 H1 G2 H2 : Hp} (a : Stp G H G1 H1) (b : Stp G1 H1 G2 H2) : Stp G H G2 H2 :=
  ⟨a.g.trans b.g, a.h.trans b.h, b.s, fun x o e m n => b.k x o (a.h x o e) m (a.k x o e m n)⟩
/-- a new object that is seen -/
theorem Stp.new {G H : Hp} {p : Addr} {o : HO} (s : Same G H) (hp : H p = none) : Stp G H (upd G p o) (upd H p o) := by
  have gp : G p = none := Same.free s hp
  refine ⟨fun b u e => ?_, fun b u e => ?_, fun b u e => ?_, fun b u e m n => ?_⟩
  · rw [upd_ne (ne_of_none e gp)]; exact e
  · rw [upd_ne (ne_of_none e hp)]; exact e
  · by_cases hb : b = p
    · subst hb; rw [upd_same] at e ⊢; exact e
    · rw [upd_ne hb] at e ⊢; exact s b u e
  · rw [upd_ne (ne_of_none e hp)]; exact n
/-- a new object that is not seen -/
theorem Stp.hid {G H : Hp} {p : Addr} {o : HO} (s : Same G H) (hp : H p = none) : Stp G H G (upd H p o) :=
  ⟨Same.refl G, fun b u e => by rw [upd_ne (ne_of_none e hp)]; exact e, fun b u e => by rw [upd_ne (ne_of_none (s b u e) hp)]; exact s b u e, fun _ _ _ _ n => n⟩
/-- a hidden one comes to be seen -/
theorem Stp.show {G H : Hp} {p : Addr} {o : HO} (s : Same G H) (hp : H p = some o) (gp : G p = none) : Same G (upd G p o) ∧ Same (upd G p o) H := by
  refine ⟨fun b u e => ?_, fun b u e => ?_⟩
  · rw [upd_ne (ne_of_none e gp)]; exact e
  · by_cases hb : b = p
    · subst hb; rw [upd_same] at e; cases e; exact hp
    · rw [upd_ne hb] at e; exact s b u e

/-- what the text's classes are: the one class of objects at C with its fields' names, the errors' classes with their field's name -/
structure Cf where
  C : Addr
  CN : Addr
  CV : Addr
  K : PySem.W.Frag
def Cf.ec (c : Cf) : Nat → Addr × Str
  | 0 => (c.CN, "name")
  | _ => (c.CV, "place")
def nmB : List Str := ["lives", "many"]

/-- a slot's content: nothing said; data; a list of one's own; an object; an object that is being made; the script; a list of nothing said of length at most n -/
inductive SV where
  | un
  | d (x : PyData)
  | own (xs : List PyData)
  | ins (fs : List PyData)
  | oins (a : Addr) (fs : List PyData)
  | scr (ns : List Int)
  | fre (x : PyData)
  | jnk
def isO : SV → Bool
  | .own _ => true
  | .oins _ _ => true
  | .jnk => true
  | _ => false
def isF : SV → Bool
  | .fre _ => true
  | _ => false
/-- a list or a tuple -/
def isLT : HO → Bool
  | .lst _ => true
  | .tup _ => true
  | _ => false

def InsRep (c : Cf) (G : Hp) (v : V) (fs : List PyData) : Prop := ∃ a dx vs, v = .ref a ∧ G a = some (.ins c.C dx (nmB.zip vs)) ∧ vs.length = nmB.length ∧ RpAll G vs fs
def ScrRep (c : Cf) (G : Hp) (v : V) (ns : List Int) : Prop := ∃ a, v = .ref a ∧ SqL c.K G a (ns.map V.int)
def SlotRep (c : Cf) (He G H : Hp) (o : Option V) : SV → Prop
  | .un => True
  | .d x => ∃ v, o = some v ∧ Rp G v x
  | .own xs => ∃ p vs, o = some (.ref p) ∧ He p = none ∧ G p = none ∧ H p = some (.lst vs) ∧ RpAll G vs xs
  | .ins fs => ∃ v, o = some v ∧ InsRep c G v fs
  | .oins p fs => ∃ dx vs, o = some (.ref p) ∧ He p = none ∧ G p = none ∧ H p = some (.ins c.C dx (nmB.zip vs)) ∧ vs.length ≤ nmB.length ∧ RpAll G vs fs
  | .fre _ => True
  | .jnk => ∃ p vs, o = some (.ref p) ∧ He p = none ∧ G p = none ∧ H p = some (.lst vs) ∧ vs.length ≤ 1000000
  | .scr ns => ∃ v, o = some v ∧ ScrRep c G v ns
theorem InsRep.mono {c : Cf} {G G' : Hp} {v : V} {fs : List PyData} (e : Same G G') (h : InsRep c G v fs) : InsRep c G' v fs := by
  obtain ⟨a, dx, vs, h1, h2, h3, h4⟩ := h
  exact ⟨a, dx, vs, h1, e _ _ h2, h3, h4.mono e⟩
theorem ScrRep.mono {c : Cf} {G G' : Hp} {v : V} {ns : List Int} (e : Same G G') (h : ScrRep c G v ns) : ScrRep c G' v ns := by
  obtain ⟨a, h1, h2⟩ := h
  exact ⟨a, h1, e.seq h2⟩
theorem SlotRep.mono {c : Cf} {He G H G' H' : Hp} {o : Option V} (e : Stp G H G' H') : ∀ {s : SV}, SlotRep c He G H o s → SlotRep c He G' H' o s
  | .un, _ => trivial
  | .d x, ⟨v, h1, h2⟩ => ⟨v, h1, h2.mono e.g⟩
  | .own xs, ⟨p, vs, h1, h2, h3, h4, h5⟩ => ⟨p, vs, h1, h2, e.k p _ h4 rfl h3, e.h _ _ h4, h5.mono e.g⟩
  | .ins fs, ⟨v, h1, h2⟩ => ⟨v, h1, h2.mono e.g⟩
  | .oins p fs, ⟨dx, vs, h1, h2, h3, h4, h5, h6⟩ => ⟨dx, vs, h1, h2, e.k p _ h4 rfl h3, e.h _ _ h4, h5, h6.mono e.g⟩
  | .scr ns, ⟨v, h1, h2⟩ => ⟨v, h1, h2.mono e.g⟩
  | .fre _, _ => trivial
  | .jnk, ⟨p, vs, h1, h2, h3, h4, h5⟩ => ⟨p, vs, h1, h2, e.k p _ h4 rfl h3, e.h _ _ h4, h5⟩

def OwnsAt (ρ : List SV) (σ : L2.St) (i : Nat) (p : Addr) : Prop := (∃ s, ρ[i]? = some s ∧ isO s = true) ∧ σ[i]? = some (some (.ref p))
/-- data in a world of its own, whose lists nobody else sees or owns -/
def FreAt (He G H : Hp) (ρ : List SV) (σ : L2.St) (o : Option V) (x : PyData) : Prop := ∃ v Gx, o = some v ∧ Rp Gx v x ∧ Same Gx H ∧ (∀ a u, Gx a = some u → isLT u = true) ∧
  ∀ a xs, Gx a = some (.lst xs) → He a = none ∧ G a = none ∧ ∀ j, ¬ OwnsAt ρ σ j a
structure Rep (c : Cf) (Ge He : Hp) (ρ : List SV) (σ : L2.St) (G H : Hp) : Prop where
  st : Stp Ge He G H
  len : ρ.length = σ.length
  slot : ∀ (i : Nat) (s : SV), ρ[i]? = some s → SlotRep c He G H (σ[i]?).join s
  sep : ∀ (i j : Nat) (p : Addr), OwnsAt ρ σ i p → OwnsAt ρ σ j p → i = j
  fre : ∀ (i : Nat) (x : PyData), ρ[i]? = some (.fre x) → FreAt He G H ρ σ (σ[i]?).join x
theorem of_join {σ : L2.St} {i : Nat} {v : V} (h : (σ[i]?).join = some v) : σ[i]? = some (some v) := by
  cases e : σ[i]? with
  | none => rw [e] at h; cases h
  | some o => rw [e] at h; rw [show o = some v from h]
theorem set_self {α : Type} {l : List α} {i : Nat} {x y : α} (h : (l.set i x)[i]? = some y) : i < l.length ∧ y = x := by
  by_cases hl : i < l.length
  · rw [List.getElem?_set_self hl] at h
    cases h
    exact ⟨hl, rfl⟩
  · rw [List.getElem?_eq_none (by rw [List.length_set]; omega)] at h
    cases h
section
variable {c : Cf} {Ge He : Hp} {ρ : List SV} {σ : L2.St} {G H G' H' : Hp}
theorem FreAt.mono {o : Option V} {x : PyData} (h : FreAt He G H ρ σ o x) (e : Stp G H G' H') : FreAt He G' H' ρ σ o x := by
  obtain ⟨v, Gx, h1, h2, h3, h4, h5⟩ := h
  refine ⟨v, Gx, h1, h2, h3.trans e.h, h4, fun a xs q => ?_⟩
  obtain ⟨q1, q2, q3⟩ := h5 a xs q
  exact ⟨q1, e.k a _ (h3 _ _ q) rfl q2, q3⟩
theorem Rep.mono (r : Rep c Ge He ρ σ G H) (e : Stp G H G' H') : Rep c Ge He ρ σ G' H' := ⟨r.st.trans e, r.len, fun i s h => (r.slot i s h).mono e, r.sep, fun i x h => (r.fre i x h).mono e⟩
theorem Rep.fresh (r : Rep c Ge He ρ σ G H) {p : Addr} (h : H p = none) : He p = none := Same.free r.st.h h
theorem Rep.d (r : Rep c Ge He ρ σ G H) {i : Nat} {x : PyData} (h : ρ[i]? = some (.d x)) : ∃ v, σ[i]? = some (some v) ∧ Rp G v x := by
  obtain ⟨v, h1, h2⟩ := r.slot i _ h
  exact ⟨v, of_join h1, h2⟩
theorem Rep.own (r : Rep c Ge He ρ σ G H) {i : Nat} {xs : List PyData} (h : ρ[i]? = some (.own xs)) : ∃ p vs, σ[i]? = some (some (.ref p)) ∧ He p = none ∧ G p = none ∧ H p = some (.lst vs) ∧ RpAll G vs xs := by
  obtain ⟨p, vs, h1, h2⟩ := r.slot i _ h
  exact ⟨p, vs, of_join h1, h2⟩
theorem Rep.ins (r : Rep c Ge He ρ σ G H) {i : Nat} {fs : List PyData} (h : ρ[i]? = some (.ins fs)) : ∃ v, σ[i]? = some (some v) ∧ InsRep c G v fs := by
  obtain ⟨v, h1, h2⟩ := r.slot i _ h
  exact ⟨v, of_join h1, h2⟩
theorem Rep.scr (r : Rep c Ge He ρ σ G H) {i : Nat} {ns : List Int} (h : ρ[i]? = some (.scr ns)) : ∃ v, σ[i]? = some (some v) ∧ ScrRep c G v ns := by
  obtain ⟨v, h1, h2⟩ := r.slot i _ h
  exact ⟨v, of_join h1, h2⟩
theorem Rep.oins (r : Rep c Ge He ρ σ G H) {i : Nat} {p : Addr} {fs : List PyData} (h : ρ[i]? = some (.oins p fs)) : ∃ dx vs, σ[i]? = some (some (.ref p)) ∧ He p = none ∧ G p = none ∧ H p = some (.ins c.C dx (nmB.zip vs)) ∧ vs.length ≤ nmB.length ∧ RpAll G vs fs := by
  obtain ⟨dx, vs, h1, h2⟩ := r.slot i _ h
  exact ⟨dx, vs, of_join h1, h2⟩
theorem Rep.jnk (r : Rep c Ge He ρ σ G H) {i : Nat} (h : ρ[i]? = some .jnk) : ∃ p vs, σ[i]? = some (some (.ref p)) ∧ He p = none ∧ G p = none ∧ H p = some (.lst vs) ∧ vs.length ≤ 1000000 := by
  obtain ⟨p, vs, h1, h2⟩ := r.slot i _ h
  exact ⟨p, vs, of_join h1, h2⟩
/-- nobody owns what the heap does not know; what is owned is no tuple -/
theorem Rep.ownObj (r : Rep c Ge He ρ σ G H) {p : Addr} {j : Nat} (x : OwnsAt ρ σ j p) : ∃ o, H p = some o ∧ isM o = true ∧ He p = none ∧ G p = none := by
  obtain ⟨⟨s, e, hs⟩, e2⟩ := x
  cases s with
  | own xs =>
    obtain ⟨q, vs, h1, h2, h3, h4, _⟩ := r.own e
    rw [e2] at h1; cases h1
    exact ⟨_, h4, rfl, h2, h3⟩
  | oins a xs =>
    obtain ⟨dx, vs, h1, h2, h3, h4, _⟩ := r.oins e
    rw [e2] at h1; cases h1
    exact ⟨_, h4, rfl, h2, h3⟩
  | jnk =>
    obtain ⟨q, vs, h1, h2, h3, h4, _⟩ := r.jnk e
    rw [e2] at h1; cases h1
    exact ⟨_, h4, rfl, h2, h3⟩
  | un => cases hs
  | d x => cases hs
  | ins x => cases hs
  | scr x => cases hs
  | fre x => cases hs
theorem Rep.noOwn (r : Rep c Ge He ρ σ G H) {p : Addr} (h : H p = none) (j : Nat) : ¬ OwnsAt ρ σ j p := fun x => by
  obtain ⟨o, e, _⟩ := r.ownObj x
  rw [h] at e; cases e
/-- a slot is given something that is not one's own -/
theorem Rep.set (r : Rep c Ge He ρ σ G H) {i : Nat} {s : SV} {o : Option V} (hs : isO s = false) (hf : isF s = false) (h : SlotRep c He G H o s) : Rep c Ge He (ρ.set i s) (σ.set i o) G H := by
  have back : ∀ a p, OwnsAt (ρ.set i s) (σ.set i o) a p → OwnsAt ρ σ a p := by
    intro a p x
    obtain ⟨⟨t, e, ht⟩, e2⟩ := x
    by_cases hj : i = a
    · subst hj
      obtain ⟨_, rfl⟩ := set_self e
      rw [hs] at ht; cases ht
    · rw [List.getElem?_set_ne hj] at e e2
      exact ⟨⟨t, e, ht⟩, e2⟩
  refine ⟨r.st, by rw [List.length_set, List.length_set]; exact r.len, fun j t e => ?_, fun a b p x y => r.sep a b p (back a p x) (back b p y), fun j x e => ?_⟩
  · by_cases hj : i = j
    · subst hj
      obtain ⟨hl, rfl⟩ := set_self e
      rw [List.getElem?_set_self (by rw [← r.len]; exact hl)]
      exact h
    · rw [List.getElem?_set_ne hj] at e ⊢
      exact r.slot j t e
  · by_cases hj : i = j
    · subst hj
      obtain ⟨hl, rfl⟩ := set_self e
      cases hf
    · rw [List.getElem?_set_ne hj] at e ⊢
      obtain ⟨v, Gx, h1, h2, h3, h4, h5⟩ := r.fre j x e
      exact ⟨v, Gx, h1, h2, h3, h4, fun a xs q => let ⟨q1, q2, q3⟩ := h5 a xs q; ⟨q1, q2, fun k z => q3 k (back k a z)⟩⟩
/-- .. data in a world of its own -/
theorem Rep.setF (r : Rep c Ge He ρ σ G H) {i : Nat} {v : V} {x : PyData} {Gx : Hp} (h2 : Rp Gx v x) (h3 : Same Gx H) (h4 : ∀ a u, Gx a = some u → isLT u = true)
    (h5 : ∀ a xs, Gx a = some (.lst xs) → He a = none ∧ G a = none ∧ ∀ j, ¬ OwnsAt ρ σ j a) : Rep c Ge He (ρ.set i (.fre x)) (σ.set i (some v)) G H := by
  have back : ∀ a p, OwnsAt (ρ.set i (.fre x)) (σ.set i (some v)) a p → OwnsAt ρ σ a p := by
    intro a p z
    obtain ⟨⟨t, e, ht⟩, e2⟩ := z
    by_cases hj : i = a
    · subst hj
      obtain ⟨_, rfl⟩ := set_self e
      cases ht
    · rw [List.getElem?_set_ne hj] at e e2
      exact ⟨⟨t, e, ht⟩, e2⟩
  refine ⟨r.st, by rw [List.length_set, List.length_set]; exact r.len, fun j t e => ?_, fun a b p x y => r.sep a b p (back a p x) (back b p y), fun j y e => ?_⟩
  · by_cases hj : i = j
    · subst hj
      obtain ⟨hl, rfl⟩ := set_self e
      trivial
    · rw [List.getElem?_set_ne hj] at e ⊢
      exact r.slot j t e
  · by_cases hj : i = j
    · subst hj
      obtain ⟨hl, e3⟩ := set_self e
      cases e3
      rw [List.getElem?_set_self (by rw [← r.len]; exact hl)]
      exact ⟨v, Gx, rfl, h2, h3, h4, fun a xs q => let ⟨q1, q2, q3⟩ := h5 a xs q; ⟨q1, q2, fun k z => q3 k (back k a z)⟩⟩
    · rw [List.getElem?_set_ne hj] at e ⊢
      obtain ⟨v, Gx, h1, h2, h3, h4, h5⟩ := r.fre j y e
      exact ⟨v, Gx, h1, h2, h3, h4, fun a xs q => let ⟨q1, q2, q3⟩ := h5 a xs q; ⟨q1, q2, fun k z => q3 k (back k a z)⟩⟩
/-- .. a new list of one's own -/
theorem Rep.setNew (r : Rep c Ge He ρ σ G H) {i : Nat} {xs : List PyData} {vs : List V} {p : Addr} (hp : H p = none) (st : Stp G H G' H') (gp : G' p = none) (h1 : H' p = some (.lst vs)) (h2 : RpAll G' vs xs) :
    Rep c Ge He (ρ.set i (.own xs)) (σ.set i (some (.ref p))) G' H' := by
  have r' := r.mono st
  have back : ∀ a q, a ≠ i → OwnsAt (ρ.set i (.own xs)) (σ.set i (some (.ref p))) a q → OwnsAt ρ σ a q := by
    intro a q hj x
    obtain ⟨⟨t, e, ht⟩, e2⟩ := x
    rw [List.getElem?_set_ne (Ne.symm hj)] at e e2
    exact ⟨⟨t, e, ht⟩, e2⟩
  have at_i : ∀ q, OwnsAt (ρ.set i (.own xs)) (σ.set i (some (.ref p))) i q → q = p := by
    intro q x
    obtain ⟨_, e2⟩ := x
    obtain ⟨_, e3⟩ := set_self e2
    cases e3
    rfl
  refine ⟨r'.st, by rw [List.length_set, List.length_set]; exact r.len, fun j t e => ?_, fun a b q x y => ?_, fun j x e => ?_⟩
  · by_cases hj : i = j
    · subst hj
      obtain ⟨hl, rfl⟩ := set_self e
      rw [List.getElem?_set_self (by rw [← r.len]; exact hl)]
      exact ⟨p, vs, rfl, r.fresh hp, gp, h1, h2⟩
    · rw [List.getElem?_set_ne hj] at e ⊢
      exact r'.slot j t e
  · by_cases ha : a = i
    · by_cases hb : b = i
      · rw [ha, hb]
      · subst ha
        have := at_i q x
        subst this
        exact absurd (back b _ hb y) (r.noOwn hp b)
    · by_cases hb : b = i
      · subst hb
        have := at_i q y
        subst this
        exact absurd (back a _ ha x) (r.noOwn hp a)
      · exact r.sep a b q (back a q ha x) (back b q hb y)
  · by_cases hj : i = j
    · subst hj
      obtain ⟨hl, e3⟩ := set_self e
      cases e3
    · rw [List.getElem?_set_ne hj] at e ⊢
      obtain ⟨v, Gx, k1, k2, k3, k4, k5⟩ := r.fre j x e
      refine ⟨v, Gx, k1, k2, k3.trans st.h, k4, fun a ys q => ?_⟩
      obtain ⟨q1, q2, q3⟩ := k5 a ys q
      refine ⟨q1, st.k a _ (k3 _ _ q) rfl q2, fun k z => ?_⟩
      by_cases hk : k = i
      · subst hk
        have := at_i a z
        subst this
        have := k3 _ _ q
        rw [hp] at this; cases this
      · exact q3 k (back k a hk z)
/-- an own object is written -/
theorem Rep.write (r : Rep c Ge He ρ σ G H) {i : Nat} {s : SV} {p : Addr} {o : HO} (ho : OwnsAt ρ σ i p) (h : SlotRep c He G (upd H p o) (some (.ref p)) s) (hs : isF s = false) :
    Rep c Ge He (ρ.set i s) σ G (upd H p o) := by
  obtain ⟨ob, hob, mob, he, hg⟩ := r.ownObj ho
  have st : Stp Ge He G (upd H p o) := ⟨r.st.g, fun b u e => by rw [upd_ne (ne_of_none e he)]; exact r.st.h b u e, fun b u e => by rw [upd_ne (ne_of_none e hg)]; exact r.st.s b u e, r.st.k⟩
  have back : ∀ a q, OwnsAt (ρ.set i s) σ a q → OwnsAt ρ σ a q := by
    intro a q x
    obtain ⟨⟨t, e, ht⟩, e2⟩ := x
    by_cases hj : i = a
    · subst hj
      exact ⟨ho.1, e2⟩
    · rw [List.getElem?_set_ne hj] at e
      exact ⟨⟨t, e, ht⟩, e2⟩
  refine ⟨st, by rw [List.length_set]; exact r.len, fun j t e => ?_, fun a b q x y => r.sep a b q (back a q x) (back b q y), fun j x e => ?_⟩
  · by_cases hj : i = j
    · subst hj
      obtain ⟨hl, rfl⟩ := set_self e
      rw [ho.2]
      exact h
    · rw [List.getElem?_set_ne hj] at e
      have q := r.slot j t e
      have ne : ∀ p', (σ[j]?).join = some (.ref p') → isO t = true → p' ≠ p := by
        intro p' h9 ht ep
        rw [ep] at h9
        exact hj (r.sep i j p ho ⟨⟨_, e, ht⟩, of_join h9⟩)
      cases t with
      | un => trivial
      | d x => exact q
      | ins x => exact q
      | scr x => exact q
      | fre x => trivial
      | own xs =>
        obtain ⟨p', vs, h1, h2, h3, h4, h5⟩ := q
        exact ⟨p', vs, h1, h2, h3, by rw [upd_ne (ne p' h1 rfl)]; exact h4, h5⟩
      | oins a xs =>
        obtain ⟨dx, vs, h1, h2, h3, h4, h5⟩ := q
        exact ⟨dx, vs, h1, h2, h3, by rw [upd_ne (ne a h1 rfl)]; exact h4, h5⟩
      | jnk =>
        obtain ⟨p', vs, h1, h2, h3, h4, h5⟩ := q
        exact ⟨p', vs, h1, h2, h3, by rw [upd_ne (ne p' h1 rfl)]; exact h4, h5⟩
  · by_cases hj : i = j
    · subst hj
      obtain ⟨hl, rfl⟩ := set_self e
      cases hs
    · rw [List.getElem?_set_ne hj] at e
      obtain ⟨v, Gx, k1, k2, k3, k4, k5⟩ := r.fre j x e
      refine ⟨v, Gx, k1, k2, fun b u q => ?_, k4, fun a ys q => let ⟨q1, q2, q3⟩ := k5 a ys q; ⟨q1, q2, fun k z => q3 k (back k a z)⟩⟩
      by_cases hb : b = p
      · subst hb
        have q0 := k3 _ _ q
        rw [hob] at q0
        cases q0
        have lt := k4 _ _ q
        cases ob with
        | lst xs => exact absurd ho ((k5 _ _ q).2.2 i)
        | tup xs => cases mob
        | _ => cases lt
      · rw [upd_ne hb]
        exact k3 _ _ q
/-- an own list becomes data for good -/
theorem Rep.freeze (r : Rep c Ge He ρ σ G H) {i : Nat} {xs : List PyData} (h : ρ[i]? = some (.own xs)) : ∃ G', Rep c Ge He (ρ.set i (.d (.list xs))) σ G' H := by
  obtain ⟨p, vs, h1, h2, h3, h4, h5⟩ := r.own h
  have ho : OwnsAt ρ σ i p := ⟨⟨_, h, rfl⟩, h1⟩
  have sh := Stp.show (o := .lst vs) r.st.s h4 h3
  have st : Stp Ge He (upd G p (.lst vs)) H := ⟨r.st.g.trans sh.1, r.st.h, sh.2, fun b o e m n => by
    rw [upd_ne (ne_of_none e h2)]
    exact r.st.k b o e m n⟩
  have back : ∀ a q, OwnsAt (ρ.set i (.d (.list xs))) σ a q → OwnsAt ρ σ a q := by
    intro a q x
    obtain ⟨⟨t, e, ht⟩, e2⟩ := x
    by_cases hj : i = a
    · subst hj
      obtain ⟨hl, rfl⟩ := set_self e
      cases ht
    · rw [List.getElem?_set_ne hj] at e
      exact ⟨⟨t, e, ht⟩, e2⟩
  refine ⟨upd G p (.lst vs), st, by rw [List.length_set]; exact r.len, fun j t e => ?_, fun a b q x y => r.sep a b q (back a q x) (back b q y), fun j x e => ?_⟩
  · by_cases hj : i = j
    · subst hj
      obtain ⟨hl, rfl⟩ := set_self e
      rw [h1]
      exact ⟨_, rfl, .lst upd_same (h5.mono sh.1)⟩
    · rw [List.getElem?_set_ne hj] at e
      have q := r.slot j t e
      have ne : ∀ p', (σ[j]?).join = some (.ref p') → isO t = true → p' ≠ p := by
        intro p' h9 ht ep
        rw [ep] at h9
        exact hj (r.sep i j p ho ⟨⟨_, e, ht⟩, of_join h9⟩)
      cases t with
      | un => trivial
      | d x => obtain ⟨v, q1, q2⟩ := q; exact ⟨v, q1, q2.mono sh.1⟩
      | ins x => obtain ⟨v, q1, q2⟩ := q; exact ⟨v, q1, q2.mono sh.1⟩
      | scr x => obtain ⟨v, q1, q2⟩ := q; exact ⟨v, q1, q2.mono sh.1⟩
      | fre x => trivial
      | own ys =>
        obtain ⟨p', ws, e1, e2, e3, e4, e5⟩ := q
        exact ⟨p', ws, e1, e2, by rw [upd_ne (ne p' e1 rfl)]; exact e3, e4, e5.mono sh.1⟩
      | oins a ys =>
        obtain ⟨dx, ws, e1, e2, e3, e4, e5, e6⟩ := q
        exact ⟨dx, ws, e1, e2, by rw [upd_ne (ne a e1 rfl)]; exact e3, e4, e5, e6.mono sh.1⟩
      | jnk =>
        obtain ⟨p', ws, e1, e2, e3, e4, e5⟩ := q
        exact ⟨p', ws, e1, e2, by rw [upd_ne (ne p' e1 rfl)]; exact e3, e4, e5⟩
  · by_cases hj : i = j
    · subst hj
      obtain ⟨hl, e3⟩ := set_self e
      cases e3
    · rw [List.getElem?_set_ne hj] at e
      obtain ⟨v, Gx, k1, k2, k3, k4, k5⟩ := r.fre j x e
      refine ⟨v, Gx, k1, k2, k3, k4, fun a ys q => ?_⟩
      obtain ⟨q1, q2, q3⟩ := k5 a ys q
      refine ⟨q1, ?_, fun k z => q3 k (back k a z)⟩
      rw [upd_ne (fun z => by subst z; exact q3 i ho)]
      exact q2
/-- a slot is forgotten -/
theorem Rep.forget (r : Rep c Ge He ρ σ G H) {i : Nat} {o : Option V} : Rep c Ge He (ρ.set i .un) (σ.set i o) G H := r.set rfl rfl trivial
end
end Sm

set_option Elab.async false
set_option linter.all false
set_option maxRecDepth 100000
set_option maxHeartbeats 2000000
/-! Sm1: readings of expressions against plain functions. -/
namespace Sm
open PySem PySem.Spec L2

abbrev Rl (α : Type) := Hp → Hp → V → α → Prop
def rlE : Rl PyData := fun G _ v d => Rp G v d
def rlR : Rl PyData := fun _ H v d => Rp H v d
/-- a list (false) or a tuple (true) with its items -/
def rlV : Rl (Bool × List PyData) := fun G H v x => ∃ a vs, v = .ref a ∧ (if x.1 = true then H a = some (.tup vs) else H a = some (.lst vs)) ∧ RpAll G vs x.2
def rlO (c : Cf) : Rl (List PyData) := fun G _ v fs => InsRep c G v fs
def rlS (c : Cf) : Rl (List Int) := fun G _ v ns => ScrRep c G v ns
/-- an argument: data, an object -/
def ArgRep (c : Cf) (G : Hp) (v : V) : SV → Prop
  | .d x => Rp G v x
  | .ins fs => InsRep c G v fs
  | .scr ns => ScrRep c G v ns
  | _ => False
def rlG (c : Cf) : Rl SV := fun G _ v s => ArgRep c G v s
def rlGR (c : Cf) : Rl SV := fun _ H v s => ArgRep c H v s
def Mono {α : Type} (rl : Rl α) : Prop := ∀ G H G' H' v a, Stp G H G' H' → rl G H v a → rl G' H' v a
theorem mono_E : Mono rlE := fun _ _ _ _ _ _ e h => Rp.mono e.g h
theorem mono_R : Mono rlR := fun _ _ _ _ _ _ e h => Rp.mono e.h h
theorem mono_V : Mono rlV := fun _ _ _ _ _ _ e h => by
  obtain ⟨a, vs, h1, h2, h3⟩ := h
  refine ⟨a, vs, h1, ?_, h3.mono e.g⟩
  split at h2
  · rw [if_pos (by assumption)]; exact e.h _ _ h2
  · rw [if_neg (by assumption)]; exact e.h _ _ h2
theorem mono_O {c : Cf} : Mono (rlO c) := fun _ _ _ _ _ _ e h => InsRep.mono e.g h
theorem mono_S {c : Cf} : Mono (rlS c) := fun _ _ _ _ _ _ e h => ScrRep.mono e.g h
theorem ArgRep.mono {c : Cf} {G G' : Hp} {v : V} (e : Same G G') : ∀ {s : SV}, ArgRep c G v s → ArgRep c G' v s
  | .d _, h => Rp.mono e h
  | .ins _, h => InsRep.mono e h
  | .scr _, h => ScrRep.mono e h
theorem mono_G {c : Cf} : Mono (rlG c) := fun _ _ _ _ _ _ e h => ArgRep.mono e.g h
theorem mono_GR {c : Cf} : Mono (rlGR c) := fun _ _ _ _ _ _ e h => ArgRep.mono e.h h

/-- an own error of kind n that carries x -/
def XRep (c : Cf) (n : Nat) (x : PyData) (cls : Value) (d : Option Addr) (G H : Hp) : Prop := ∃ dd v, cls = .ref (c.ec n).1 ∧ d = some dd ∧ H dd = some (.xd [((c.ec n).2, v)]) ∧ Rp G v x
/-- what an expression's end must give -/
def EPost {α : Type} (c : Cf) (rl : Rl α) (W : WX) (σ : L2.St) (G H : Hp) (Q : VK) : R α → Prop
  | .ok a => ∀ v G' H', Stp G H G' H' → rl G' H' v a → Q v H'
  | .exc n x => ∀ cls d G' H', Stp G H G' H' → XRep c n x cls d G' H' → W cls d σ H'
  | .bad => False
def Sim {α : Type} (c : Cf) (rl : Rl α) (te : TE) (p : List SV → R α) (W : WX) : Prop :=
  ∀ Ge He ρ σ G H, Rep c Ge He ρ σ G H → ∀ Q : VK, EPost c rl W σ G H Q (p ρ) → te σ H Q
/-- .. a new list -/
def NPost (c : Cf) (W : WX) (σ : L2.St) (G H : Hp) (Q : VK) : R (List PyData) → Prop
  | .ok xs => ∀ p vs G' H', H p = none → Stp G H G' H' → G' p = none → H' p = some (.lst vs) → RpAll G' vs xs → Q (.ref p) H'
  | .exc n x => ∀ cls d G' H', Stp G H G' H' → XRep c n x cls d G' H' → W cls d σ H'
  | .bad => False
def SimN (c : Cf) (te : TE) (p : List SV → R (List PyData)) (W : WX) : Prop :=
  ∀ Ge He ρ σ G H, Rep c Ge He ρ σ G H → ∀ Q : VK, NPost c W σ G H Q (p ρ) → te σ H Q
/-- arguments -/
def APost (c : Cf) (raw : Bool) (W : WX) (σ : L2.St) (G H : Hp) (Q : List V → Hp → Prop) : R (List SV) → Prop
  | .ok as => ∀ vs G' H', Stp G H G' H' → Paired (ArgRep c (if raw = true then H' else G')) vs as → Q vs H'
  | .exc n x => ∀ cls d G' H', Stp G H G' H' → XRep c n x cls d G' H' → W cls d σ H'
  | .bad => False
def SimA (c : Cf) (raw : Bool) (ta : TA) (p : List SV → R (List SV)) (W : WX) : Prop :=
  ∀ Ge He ρ σ G H, Rep c Ge He ρ σ G H → ∀ Q : List V → Hp → Prop, APost c raw W σ G H Q (p ρ) → ta σ H Q
/-- tests -/
def TPost (c : Cf) (W : WX) (σ : L2.St) (G H : Hp) (Q : Bool → Hp → Prop) : R Bool → Prop
  | .ok b => ∀ G' H', Stp G H G' H' → Q b H'
  | .exc n x => ∀ cls d G' H', Stp G H G' H' → XRep c n x cls d G' H' → W cls d σ H'
  | .bad => False
def SimT (c : Cf) (tt : TT) (p : List SV → R Bool) (W : WX) : Prop :=
  ∀ Ge He ρ σ G H, Rep c Ge He ρ σ G H → ∀ Q : Bool → Hp → Prop, TPost c W σ G H Q (p ρ) → tt σ H Q

/-! ### plain functions -/
def pV (i : Nat) : List SV → R PyData := fun ρ => match ρ[i]? with
  | some (.d x) => .ok x
  | _ => .bad
def pRaw (i : Nat) : List SV → R PyData := fun ρ => match ρ[i]? with
  | some (.d x) => .ok x
  | some (.own xs) => .ok (.list xs)
  | _ => .bad
def sqOf : PyData → R (Bool × List PyData)
  | .list xs => .ok (false, xs)
  | .tuple xs => .ok (true, xs)
  | _ => .bad
def pSq (i : Nat) : List SV → R (Bool × List PyData) := fun ρ => match ρ[i]? with
  | some (.d x) => sqOf x
  | some (.own xs) => .ok (false, xs)
  | _ => .bad
def pObj (i : Nat) : List SV → R (List PyData) := fun ρ => match ρ[i]? with
  | some (.ins fs) => .ok fs
  | _ => .bad
def pScr (i : Nat) : List SV → R (List Int) := fun ρ => match ρ[i]? with
  | some (.scr ns) => .ok ns
  | _ => .bad
def pArg (i : Nat) : List SV → R SV := fun ρ => match ρ[i]? with
  | some (.d x) => .ok (.d x)
  | some (.ins x) => .ok (.ins x)
  | some (.scr x) => .ok (.scr x)
  | _ => .bad
def pArgR (i : Nat) : List SV → R SV := fun ρ => match ρ[i]? with
  | some (.d x) => .ok (.d x)
  | some (.own x) => .ok (.d (.list x))
  | some (.ins x) => .ok (.ins x)
  | some (.scr x) => .ok (.scr x)
  | some (.fre x) => .ok (.d x)
  | _ => .bad
def pK {α : Type} (a : α) : List SV → R α := fun _ => .ok a
def p1 {α β : Type} (f : α → Option β) (pa : List SV → R α) : List SV → R β := fun ρ => (pa ρ).bind fun a => R.of (f a)
def p2 {α β γ : Type} (f : α → β → Option γ) (pa : List SV → R α) (pb : List SV → R β) : List SV → R γ := fun ρ => (pa ρ).bind fun a => (pb ρ).bind fun b => R.of (f a b)
def pSeqOf (pa : List SV → R PyData) : List SV → R (Bool × List PyData) := fun ρ => (pa ρ).bind sqOf
def pList (pa : List SV → R (List PyData)) : List SV → R PyData := fun ρ => (pa ρ).bind fun xs => .ok (.list xs)
def pNil : List SV → R (List SV) := fun _ => .ok []
def pCons (pa : List SV → R SV) (pr : List SV → R (List SV)) : List SV → R (List SV) := fun ρ => (pa ρ).bind fun a => (pr ρ).bind fun r => .ok (a :: r)
def pD (pa : List SV → R PyData) : List SV → R SV := fun ρ => (pa ρ).bind fun a => .ok (.d a)
def toB : PyData → Option Bool
  | .bool b => some b
  | _ => none
def pTest (pa : List SV → R PyData) : List SV → R Bool := p1 toB pa
def pNotT (pa : List SV → R Bool) : List SV → R Bool := fun ρ => (pa ρ).bind fun b => .ok (!b)
def pAndT (pa pb : List SV → R Bool) : List SV → R Bool := fun ρ => (pa ρ).bind fun a => if a = true then pb ρ else .ok false
def pOrT (pa pb : List SV → R Bool) : List SV → R Bool := fun ρ => (pa ρ).bind fun a => if a = true then .ok true else pb ρ
def pNotV (pa : List SV → R PyData) : List SV → R PyData := fun ρ => (pTest pa ρ).bind fun b => .ok (.bool (!b))
def pAndV (pa pb : List SV → R PyData) : List SV → R PyData := fun ρ => (pTest pa ρ).bind fun a => if a = true then pb ρ else .ok (.bool false)
def pOrV (pa pb : List SV → R PyData) : List SV → R PyData := fun ρ => (pTest pa ρ).bind fun a => if a = true then .ok (.bool true) else pb ρ
def pIf {α : Type} (pc : List SV → R Bool) (pa pb : List SV → R α) : List SV → R α := fun ρ => (pc ρ).bind fun c => if c = true then pa ρ else pb ρ
/-- the data of written items -/
def dsOf : List SV → Option (List PyData)
  | [] => some []
  | .d x :: r => (dsOf r).map (x :: ·)
  | _ :: _ => none
def lineOk (n : Nat) : Bool := decide (n ≤ 16777216)
theorem line_of {n : Nat} (h : lineOk n = true) : n ≤ sizeLine := by
  rw [PySem.sizeLine_eq]
  exact of_decide_eq_true h
def pTup (pa : List SV → R (List SV)) : List SV → R PyData := fun ρ => (pa ρ).bind fun as => (R.of (dsOf as)).bind fun ds => if lineOk ds.length = true then .ok (.tuple ds) else .bad
def pLst (pa : List SV → R (List SV)) : List SV → R (List PyData) := fun ρ => (pa ρ).bind fun as => (R.of (dsOf as)).bind fun ds => if lineOk ds.length = true then .ok ds else .bad
/-- what two places ask each other -/
def OpS {α β γ : Type} (rlA : Rl α) (rlB : Rl β) (rl : Rl γ) (r : R2) (f : α → β → Option γ) : Prop :=
  ∀ G H x y a b z, Same G H → rlA G H x a → rlB G H y b → f a b = some z → ∀ Q : VK, (∀ v G' H', Stp G H G' H' → rl G' H' v z → Q v H') → r x y H Q
def UnS {α γ : Type} (rlA : Rl α) (rl : Rl γ) (r : V → Hp → VK → Prop) (f : α → Option γ) : Prop :=
  ∀ G H x a z, Same G H → rlA G H x a → f a = some z → ∀ Q : VK, (∀ v G' H', Stp G H G' H' → rl G' H' v z → Q v H') → r x H Q
def UnN {α : Type} (rlA : Rl α) (r : V → Hp → VK → Prop) (f : α → Option (List PyData)) : Prop :=
  ∀ G H x a z, Same G H → rlA G H x a → f a = some z → ∀ Q : VK, (∀ p vs G' H', H p = none → Stp G H G' H' → G' p = none → H' p = some (.lst vs) → RpAll G' vs z → Q (.ref p) H') → r x H Q

section
variable {c : Cf} {W : WX}
theorem EPost.bind {α β : Type} {rl : Rl α} {rl' : Rl β} {σ : L2.St} {G H : Hp} {Q Q' : VK} {r : R α} {k : α → R β} (h : EPost c rl' W σ G H Q' (r.bind k))
    (hk : ∀ a, r = .ok a → EPost c rl' W σ G H Q' (k a) → ∀ v G' H', Stp G H G' H' → rl G' H' v a → Q v H') : EPost c rl W σ G H Q r := by
  cases r with
  | ok a => exact hk a rfl h
  | exc n x => exact h
  | bad => exact h
theorem EPost.step {β : Type} {rl : Rl β} {σ : L2.St} {G H G' H' : Hp} {Q : VK} {r : R β} (e : Stp G H G' H') (h : EPost c rl W σ G H Q r) : EPost c rl W σ G' H' Q r := by
  cases r with
  | ok a => exact fun v G2 H2 e2 q => h v G2 H2 (e.trans e2) q
  | exc n x => exact fun cls d G2 H2 e2 q => h cls d G2 H2 (e.trans e2) q
  | bad => exact h
theorem NPost.step {σ : L2.St} {G H G' H' : Hp} {Q : VK} {r : R (List PyData)} (e : Stp G H G' H') (h : NPost c W σ G H Q r) : NPost c W σ G' H' Q r := by
  cases r with
  | ok a => exact fun p vs G2 H2 hp e2 gp q1 q2 => h p vs G2 H2 (Same.free e.h hp) (e.trans e2) gp q1 q2
  | exc n x => exact fun cls d G2 H2 e2 q => h cls d G2 H2 (e.trans e2) q
  | bad => exact h
theorem APost.step {raw : Bool} {σ : L2.St} {G H G' H' : Hp} {Q : List V → Hp → Prop} {r : R (List SV)} (e : Stp G H G' H') (h : APost c raw W σ G H Q r) : APost c raw W σ G' H' Q r := by
  cases r with
  | ok a => exact fun v G2 H2 e2 q => h v G2 H2 (e.trans e2) q
  | exc n x => exact fun cls d G2 H2 e2 q => h cls d G2 H2 (e.trans e2) q
  | bad => exact h
theorem TPost.step {σ : L2.St} {G H G' H' : Hp} {Q : Bool → Hp → Prop} {r : R Bool} (e : Stp G H G' H') (h : TPost c W σ G H Q r) : TPost c W σ G' H' Q r := by
  cases r with
  | ok a => exact fun G2 H2 e2 => h G2 H2 (e.trans e2)
  | exc n x => exact fun cls d G2 H2 e2 q => h cls d G2 H2 (e.trans e2) q
  | bad => exact h

/-! ### names, constants -/
theorem sim_var (i : Nat) : Sim c rlE (tVar i) (pV i) W := fun Ge He ρ σ G H r Q k => by
  unfold pV at k
  split at k
  · next x e =>
    obtain ⟨v, h1, h2⟩ := r.d e
    exact ⟨v, h1, k v G H (Stp.refl r.st.s) h2⟩
  · exact k.elim
theorem sim_raw (i : Nat) : Sim c rlR (tVar i) (pRaw i) W := fun Ge He ρ σ G H r Q k => by
  unfold pRaw at k
  split at k
  · next x e =>
    obtain ⟨v, h1, h2⟩ := r.d e
    exact ⟨v, h1, k v G H (Stp.refl r.st.s) (h2.mono r.st.s)⟩
  · next xs e =>
    obtain ⟨p, vs, h1, h2, h3, h4, h5⟩ := r.own e
    exact ⟨_, h1, k _ G H (Stp.refl r.st.s) (.lst h4 (h5.mono r.st.s))⟩
  · exact k.elim
theorem rlV_of {G H : Hp} {v : V} {x : PyData} {b : Bool × List PyData} (s : Same G H) (h : Rp G v x) (e : sqOf x = .ok b) : rlV G H v b := by
  cases h with
  | lst h1 h2 => cases e; exact ⟨_, _, rfl, s _ _ h1, h2⟩
  | tup h1 h2 => cases e; exact ⟨_, _, rfl, s _ _ h1, h2⟩
  | non => cases e
  | bl b => cases e
  | int i => cases e
  | str x => cases e
theorem sqOf_noexc {x : PyData} {n : Nat} {y : PyData} : sqOf x ≠ .exc n y := by
  cases x <;> (intro h; cases h)
theorem sim_sq (i : Nat) : Sim c rlV (tVar i) (pSq i) W := fun Ge He ρ σ G H r Q k => by
  unfold pSq at k
  split at k
  · next x e =>
    obtain ⟨v, h1, h2⟩ := r.d e
    refine ⟨v, h1, ?_⟩
    cases e2 : sqOf x with
    | ok b => rw [e2] at k; exact k v G H (Stp.refl r.st.s) (rlV_of r.st.s h2 e2)
    | exc n y => exact absurd e2 sqOf_noexc
    | bad => rw [e2] at k; exact k.elim
  · next xs e =>
    obtain ⟨p, vs, h1, h2, h3, h4, h5⟩ := r.own e
    exact ⟨_, h1, k _ G H (Stp.refl r.st.s) ⟨p, vs, rfl, h4, h5⟩⟩
  · exact k.elim
theorem sim_obj (i : Nat) : Sim c (rlO c) (tVar i) (pObj i) W := fun Ge He ρ σ G H r Q k => by
  unfold pObj at k
  split at k
  · next x e =>
    obtain ⟨v, h1, h2⟩ := r.ins e
    exact ⟨v, h1, k v G H (Stp.refl r.st.s) h2⟩
  · exact k.elim
theorem sim_scr (i : Nat) : Sim c (rlS c) (tVar i) (pScr i) W := fun Ge He ρ σ G H r Q k => by
  unfold pScr at k
  split at k
  · next x e =>
    obtain ⟨v, h1, h2⟩ := r.scr e
    exact ⟨v, h1, k v G H (Stp.refl r.st.s) h2⟩
  · exact k.elim
theorem sim_arg (i : Nat) : Sim c (rlG c) (tVar i) (pArg i) W := fun Ge He ρ σ G H r Q k => by
  unfold pArg at k
  split at k
  · next x e =>
    obtain ⟨v, h1, h2⟩ := r.d e
    exact ⟨v, h1, k v G H (Stp.refl r.st.s) h2⟩
  · next x e =>
    obtain ⟨v, h1, h2⟩ := r.ins e
    exact ⟨v, h1, k v G H (Stp.refl r.st.s) h2⟩
  · next x e =>
    obtain ⟨v, h1, h2⟩ := r.scr e
    exact ⟨v, h1, k v G H (Stp.refl r.st.s) h2⟩
  · exact k.elim
theorem sim_argR (i : Nat) : Sim c (rlGR c) (tVar i) (pArgR i) W := fun Ge He ρ σ G H r Q k => by
  unfold pArgR at k
  split at k
  · next x e =>
    obtain ⟨v, h1, h2⟩ := r.d e
    exact ⟨v, h1, k v G H (Stp.refl r.st.s) (h2.mono r.st.s)⟩
  · next xs e =>
    obtain ⟨p, vs, h1, h2, h3, h4, h5⟩ := r.own e
    exact ⟨_, h1, k _ G H (Stp.refl r.st.s) (.lst h4 (h5.mono r.st.s))⟩
  · next x e =>
    obtain ⟨v, h1, h2⟩ := r.ins e
    exact ⟨v, h1, k v G H (Stp.refl r.st.s) (h2.mono r.st.s)⟩
  · next x e =>
    obtain ⟨v, h1, h2⟩ := r.scr e
    exact ⟨v, h1, k v G H (Stp.refl r.st.s) (h2.mono r.st.s)⟩
  · next x e =>
    obtain ⟨v, Gx, h1, h2, h3, _⟩ := r.fre i x e
    exact ⟨v, of_join h1, k v G H (Stp.refl r.st.s) (h2.mono h3)⟩
  · exact k.elim
theorem sim_int (i : Int) : Sim c rlE (tC (.int i)) (pK (.int i)) W := fun Ge He ρ σ G H r Q k => k _ G H (Stp.refl r.st.s) (.int i)
theorem sim_bl (i : Bool) : Sim c rlE (tC (.bl i)) (pK (.bool i)) W := fun Ge He ρ σ G H r Q k => k _ G H (Stp.refl r.st.s) (.bl i)
theorem sim_str (i : Str) : Sim c rlE (tC (.str i)) (pK (.str i)) W := fun Ge He ρ σ G H r Q k => k _ G H (Stp.refl r.st.s) (.str i)
theorem sim_non : Sim c rlE (tC .non) (pK .none) W := fun Ge He ρ σ G H r Q k => k _ G H (Stp.refl r.st.s) .non

/-! ### from one kind to another -/
theorem sim_r {te : TE} {p : List SV → R PyData} (h : Sim c rlE te p W) : Sim c rlR te p W := fun Ge He ρ σ G H r Q k => by
  refine h _ _ _ _ _ _ r _ ?_
  cases e : p ρ with
  | ok a => rw [e] at k; exact fun v G' H' s q => k v G' H' s (q.mono s.s)
  | exc n x => rw [e] at k; exact k
  | bad => rw [e] at k; exact k
theorem sim_v {te : TE} {p : List SV → R PyData} (h : Sim c rlE te p W) : Sim c rlV te (pSeqOf p) W := fun Ge He ρ σ G H r Q k => by
  refine h _ _ _ _ _ _ r _ ?_
  unfold pSeqOf at k
  cases e : p ρ with
  | ok a =>
    rw [e] at k
    have k' : EPost c rlV W σ G H Q (sqOf a) := k
    cases e2 : sqOf a with
    | ok b => rw [e2] at k'; exact fun v G' H' s q => k' v G' H' s (rlV_of s.s q e2)
    | exc n y => exact absurd e2 sqOf_noexc
    | bad => rw [e2] at k'; exact k'.elim
  | exc n x => rw [e] at k; exact k
  | bad => rw [e] at k; exact k
theorem sim_g {te : TE} {p : List SV → R PyData} (h : Sim c rlE te p W) : Sim c (rlG c) te (pD p) W := fun Ge He ρ σ G H r Q k => by
  refine h _ _ _ _ _ _ r _ ?_
  unfold pD at k
  cases e : p ρ with
  | ok a => rw [e] at k; exact fun v G' H' s q => k v G' H' s q
  | exc n x => rw [e] at k; exact k
  | bad => rw [e] at k; exact k
theorem sim_gr {te : TE} {p : List SV → R PyData} (h : Sim c rlR te p W) : Sim c (rlGR c) te (pD p) W := fun Ge He ρ σ G H r Q k => by
  refine h _ _ _ _ _ _ r _ ?_
  unfold pD at k
  cases e : p ρ with
  | ok a => rw [e] at k; exact fun v G' H' s q => k v G' H' s q
  | exc n x => rw [e] at k; exact k
  | bad => rw [e] at k; exact k
theorem sim_n {te : TE} {p : List SV → R (List PyData)} (h : SimN c te p W) : Sim c rlE te (pList p) W := fun Ge He ρ σ G H r Q k => by
  refine h _ _ _ _ _ _ r _ ?_
  unfold pList at k
  cases e : p ρ with
  | ok a =>
    rw [e] at k
    intro pp vs G' H' hp s gp h1 h2
    have sh := Stp.show (o := .lst vs) s.s h1 gp
    refine k (.ref pp) (upd G' pp (.lst vs)) H' ⟨s.g.trans sh.1, s.h, sh.2, fun b o eb m n => ?_⟩ (.lst upd_same (h2.mono sh.1))
    rw [upd_ne (ne_of_none eb hp)]
    exact s.k b o eb m n
  | exc n x => rw [e] at k; exact k
  | bad => rw [e] at k; exact k

/-! ### operators, calls of one and two -/
theorem sim_op {α β γ : Type} {rlA : Rl α} {rlB : Rl β} {rl : Rl γ} {r2 : R2} {f : α → β → Option γ} {ta tb : TE} {pa : List SV → R α} {pb : List SV → R β} (ho : OpS rlA rlB rl r2 f) (mA : Mono rlA)
    (ha : Sim c rlA ta pa W) (hb : Sim c rlB tb pb W) : Sim c rl (tOp r2 ta tb) (p2 f pa pb) W := fun Ge He ρ σ G H r Q k => by
  refine ha _ _ _ _ _ _ r _ ?_
  refine EPost.bind (k := fun a => (pb ρ).bind fun b => R.of (f a b)) k fun a ea k1 v G1 H1 s1 q1 => ?_
  refine hb _ _ _ _ _ _ (r.mono s1) _ ?_
  refine EPost.bind (k := fun b => R.of (f a b)) (k1.step s1) fun b eb k2 w G2 H2 s2 q2 => ?_
  cases e : f a b with
  | none => rw [e] at k2; exact k2.elim
  | some z =>
    rw [e] at k2
    exact ho G2 H2 v w a b z s2.s (mA _ _ _ _ _ _ s2 q1) q2 e Q fun v' G' H' s3 q3 => k2 v' G' H' (s2.trans s3) q3
theorem sim_un {α γ : Type} {rlA : Rl α} {rl : Rl γ} {r1 : V → Hp → VK → Prop} {f : α → Option γ} {ta : TE} {pa : List SV → R α} (ho : UnS rlA rl r1 f)
    (ha : Sim c rlA ta pa W) : Sim c rl (tUn r1 ta) (p1 f pa) W := fun Ge He ρ σ G H r Q k => by
  refine ha _ _ _ _ _ _ r _ ?_
  refine EPost.bind (k := fun a => R.of (f a)) k fun a ea k1 v G1 H1 s1 q1 => ?_
  cases e : f a with
  | none => rw [e] at k1; exact k1.elim
  | some z =>
    rw [e] at k1
    exact ho G1 H1 v a z s1.s q1 e Q fun v' G' H' s3 q3 => k1 v' G' H' (s1.trans s3) q3
theorem sim_cb1 {α γ : Type} {rlA : Rl α} {rl : Rl γ} {r1 : List V → Hp → VK → Prop} {f : α → Option γ} {ta : TE} {pa : List SV → R α} (ho : UnS rlA rl (fun x H Q => r1 [x] H Q) f)
    (ha : Sim c rlA ta pa W) : Sim c rl (tCB r1 (tCons ta tNil)) (p1 f pa) W := fun Ge He ρ σ G H r Q k => sim_un ho ha Ge He ρ σ G H r Q k
theorem sim_cb1N {α : Type} {rlA : Rl α} {r1 : List V → Hp → VK → Prop} {f : α → Option (List PyData)} {ta : TE} {pa : List SV → R α} (ho : UnN rlA (fun x H Q => r1 [x] H Q) f)
    (ha : Sim c rlA ta pa W) : SimN c (tCB r1 (tCons ta tNil)) (p1 f pa) W := fun Ge He ρ σ G H r Q k => by
  refine ha _ _ _ _ _ _ r _ ?_
  unfold p1 at k
  cases ea : pa ρ with
  | ok a =>
    rw [ea] at k
    have k : NPost c W σ G H Q (R.of (f a)) := k
    intro v G1 H1 s1 q1
    cases e : f a with
    | none => rw [e] at k; exact k.elim
    | some z =>
      rw [e] at k
      exact ho G1 H1 v a z s1.s q1 e Q fun p vs G' H' hp s3 gp h1 h2 => k p vs G' H' (Same.free s1.h hp) (s1.trans s3) gp h1 h2
  | exc n x => rw [ea] at k; exact k
  | bad => rw [ea] at k; exact k
theorem sim_cb2 {α β γ : Type} {rlA : Rl α} {rlB : Rl β} {rl : Rl γ} {r1 : List V → Hp → VK → Prop} {f : α → β → Option γ} {ta tb : TE} {pa : List SV → R α} {pb : List SV → R β} (ho : OpS rlA rlB rl (fun x y H Q => r1 [x, y] H Q) f) (mA : Mono rlA)
    (ha : Sim c rlA ta pa W) (hb : Sim c rlB tb pb W) : Sim c rl (tCB r1 (tCons ta (tCons tb tNil))) (p2 f pa pb) W := fun Ge He ρ σ G H r Q k => sim_op ho mA ha hb Ge He ρ σ G H r Q k

/-! ### tests -/
theorem toB_some {d : PyData} {b : Bool} (h : toB d = some b) : d = .bool b := by
  cases d <;> cases h
  rfl
theorem simT_B {te : TE} {p : List SV → R PyData} (h : Sim c rlE te p W) : SimT c (tB te) (pTest p) W := fun Ge He ρ σ G H r Q k => by
  refine h _ _ _ _ _ _ r _ ?_
  unfold pTest p1 at k
  cases e : p ρ with
  | ok a =>
    rw [e] at k
    have k : TPost c W σ G H Q (R.of (toB a)) := k
    intro v G' H' s q
    cases e2 : toB a with
    | none => rw [e2] at k; exact k.elim
    | some b =>
      rw [e2] at k
      have := toB_some e2
      subst this
      have := Rp.ofBool q
      subst this
      exact ⟨b, rfl, k G' H' s⟩
  | exc n x => rw [e] at k; exact k
  | bad => rw [e] at k; exact k
theorem simT_test {te : TE} {p : List SV → R PyData} (h : Sim c rlE te p W) : SimT c (tTest te) (pTest p) W := simT_B h
theorem simT_not {t : TT} {p : List SV → R Bool} (h : SimT c t p W) : SimT c (tNot t) (pNotT p) W := fun Ge He ρ σ G H r Q k => by
  refine h _ _ _ _ _ _ r _ ?_
  unfold pNotT at k
  cases e : p ρ with
  | ok a => rw [e] at k; exact k
  | exc n x => rw [e] at k; exact k
  | bad => rw [e] at k; exact k
theorem simT_and {t u : TT} {p q : List SV → R Bool} (h : SimT c t p W) (h2 : SimT c u q W) : SimT c (tAnd t u) (pAndT p q) W := fun Ge He ρ σ G H r Q k => by
  refine h _ _ _ _ _ _ r _ ?_
  unfold pAndT at k
  cases e : p ρ with
  | ok a =>
    rw [e] at k
    intro G' H' s
    cases a with
    | true =>
      show u σ H' Q
      exact h2 _ _ _ _ _ _ (r.mono s) _ (TPost.step s k)
    | false =>
      show Q false H'
      exact k G' H' s
  | exc n x => rw [e] at k; exact k
  | bad => rw [e] at k; exact k
theorem simT_or {t u : TT} {p q : List SV → R Bool} (h : SimT c t p W) (h2 : SimT c u q W) : SimT c (tOr t u) (pOrT p q) W := fun Ge He ρ σ G H r Q k => by
  refine h _ _ _ _ _ _ r _ ?_
  unfold pOrT at k
  cases e : p ρ with
  | ok a =>
    rw [e] at k
    intro G' H' s
    cases a with
    | true =>
      show Q true H'
      exact k G' H' s
    | false =>
      show u σ H' Q
      exact h2 _ _ _ _ _ _ (r.mono s) _ (TPost.step s k)
  | exc n x => rw [e] at k; exact k
  | bad => rw [e] at k; exact k
theorem simT_yes : SimT c tYes (pK true) W := fun Ge He ρ σ G H r Q k => k G H (Stp.refl r.st.s)
theorem sim_notV {te : TE} {p : List SV → R PyData} (h : Sim c rlE te p W) : Sim c rlE (tNotV te) (pNotV p) W := fun Ge He ρ σ G H r Q k => by
  refine simT_B h _ _ _ _ _ _ r (fun b H1 => Q (.bl (!b)) H1) ?_
  unfold pNotV at k
  cases e : pTest p ρ with
  | ok a => rw [e] at k; exact fun G' H' s => k _ G' H' s (.bl _)
  | exc n x => rw [e] at k; exact k
  | bad => rw [e] at k; exact k
theorem sim_andV {ta tb : TE} {p q : List SV → R PyData} (h : Sim c rlE ta p W) (h2 : Sim c rlE tb q W) : Sim c rlE (tAndV ta tb) (pAndV p q) W := fun Ge He ρ σ G H r Q k => by
  refine simT_B h _ _ _ _ _ _ r (fun b H1 => if b = true then tb σ H1 Q else Q (.bl false) H1) ?_
  unfold pAndV at k
  cases e : pTest p ρ with
  | ok a =>
    rw [e] at k
    intro G' H' s
    cases a with
    | true =>
      show tb σ H' Q
      exact h2 _ _ _ _ _ _ (r.mono s) _ (EPost.step s k)
    | false =>
      show Q (.bl false) H'
      exact k _ G' H' s (.bl _)
  | exc n x => rw [e] at k; exact k
  | bad => rw [e] at k; exact k
theorem sim_orV {ta tb : TE} {p q : List SV → R PyData} (h : Sim c rlE ta p W) (h2 : Sim c rlE tb q W) : Sim c rlE (tOrV ta tb) (pOrV p q) W := fun Ge He ρ σ G H r Q k => by
  refine simT_B h _ _ _ _ _ _ r (fun b H1 => if b = true then Q (.bl true) H1 else tb σ H1 Q) ?_
  unfold pOrV at k
  cases e : pTest p ρ with
  | ok a =>
    rw [e] at k
    intro G' H' s
    cases a with
    | true =>
      show Q (.bl true) H'
      exact k _ G' H' s (.bl _)
    | false =>
      show tb σ H' Q
      exact h2 _ _ _ _ _ _ (r.mono s) _ (EPost.step s k)
  | exc n x => rw [e] at k; exact k
  | bad => rw [e] at k; exact k
theorem sim_if {α : Type} {rl : Rl α} {t : TT} {ta tb : TE} {pc : List SV → R Bool} {p q : List SV → R α} (hc : SimT c t pc W) (h : Sim c rl ta p W) (h2 : Sim c rl tb q W) : Sim c rl (tIf t ta tb) (pIf pc p q) W := fun Ge He ρ σ G H r Q k => by
  refine hc _ _ _ _ _ _ r (fun b H1 => if b = true then ta σ H1 Q else tb σ H1 Q) ?_
  unfold pIf at k
  cases e : pc ρ with
  | ok a =>
    rw [e] at k
    intro G' H' s
    cases a with
    | true =>
      show ta σ H' Q
      exact h _ _ _ _ _ _ (r.mono s) _ (EPost.step s k)
    | false =>
      show tb σ H' Q
      exact h2 _ _ _ _ _ _ (r.mono s) _ (EPost.step s k)
  | exc n x => rw [e] at k; exact k
  | bad => rw [e] at k; exact k

/-! ### argument lists, displays -/
theorem simA_nil {raw : Bool} : SimA c raw tNil pNil W := fun Ge He ρ σ G H r Q k => k [] G H (Stp.refl r.st.s) .nil
theorem paired_mono {raw : Bool} {G H G' H' : Hp} (s : Stp G H G' H') : ∀ {vs : List V} {as : List SV}, Paired (ArgRep c (if raw = true then H else G)) vs as → Paired (ArgRep c (if raw = true then H' else G')) vs as
  | _, _, .nil => .nil
  | _, _, .cons h k => .cons (by cases raw with
      | true => exact ArgRep.mono s.h h
      | false => exact ArgRep.mono s.g h) (paired_mono s k)
theorem simA_cons0 {raw : Bool} {rl : Rl SV} (m : Mono rl) (hrl : ∀ G H v a, rl G H v a → ArgRep c (if raw = true then H else G) v a) {te : TE} {tr : TA} {p : List SV → R SV} {q : List SV → R (List SV)} (h : Sim c rl te p W) (h2 : SimA c raw tr q W) :
    SimA c raw (tCons te tr) (pCons p q) W := fun Ge He ρ σ G H r Q k => by
  refine h _ _ _ _ _ _ r _ ?_
  unfold pCons at k
  cases e : p ρ with
  | ok a =>
    rw [e] at k
    have k : APost c raw W σ G H Q ((q ρ).bind fun r => .ok (a :: r)) := k
    intro v G1 H1 s1 q1
    refine h2 _ _ _ _ _ _ (r.mono s1) _ ?_
    have k := APost.step s1 k
    cases e2 : q ρ with
    | ok as =>
      rw [e2] at k
      exact fun vs G2 H2 s2 q2 => k (v :: vs) G2 H2 s2 (.cons (hrl _ _ _ _ (m _ _ _ _ _ _ s2 q1)) q2)
    | exc n x => rw [e2] at k; exact k
    | bad => rw [e2] at k; exact k
  | exc n x => rw [e] at k; exact k
  | bad => rw [e] at k; exact k
theorem simA_cons {te : TE} {tr : TA} {p : List SV → R SV} {q : List SV → R (List SV)} (h : Sim c (rlG c) te p W) (h2 : SimA c false tr q W) : SimA c false (tCons te tr) (pCons p q) W := simA_cons0 (raw := false) mono_G (fun _ _ _ _ h => h) h h2
theorem simA_consR {te : TE} {tr : TA} {p : List SV → R SV} {q : List SV → R (List SV)} (h : Sim c (rlGR c) te p W) (h2 : SimA c true tr q W) : SimA c true (tCons te tr) (pCons p q) W := simA_cons0 (raw := true) mono_GR (fun _ _ _ _ h => h) h h2
theorem dsOf_rp {G : Hp} : ∀ {vs : List V} {as : List SV} {ds : List PyData}, Paired (ArgRep c G) vs as → dsOf as = some ds → RpAll G vs ds
  | _, _, _, .nil, e => by cases e; exact .nil
  | _, _, _, .cons (b := .d x) h k, e => by
    unfold dsOf at e
    cases e2 : dsOf _ with
    | none => rw [e2] at e; cases e
    | some r => rw [e2] at e; cases e; exact .cons h (dsOf_rp k e2)
  | _, _, _, .cons (b := .ins x) h k, e => by cases e
  | _, _, _, .cons (b := .scr x) h k, e => by cases e
theorem sim_tup {ta : TA} {p : List SV → R (List SV)} (h : SimA c false ta p W) : Sim c rlE (tTup ta) (pTup p) W := fun Ge He ρ σ G H r Q k => by
  refine h _ _ _ _ _ _ r _ ?_
  unfold pTup at k
  cases e : p ρ with
  | ok as =>
    rw [e] at k
    have k : EPost c rlE W σ G H Q ((R.of (dsOf as)).bind fun ds => if lineOk ds.length = true then .ok (.tuple ds) else .bad) := k
    intro vs G1 H1 s1 q1
    cases e2 : dsOf as with
    | none => rw [e2] at k; exact k.elim
    | some ds =>
      rw [e2] at k
      have k : EPost c rlE W σ G H Q (if lineOk ds.length = true then .ok (.tuple ds) else .bad) := k
      have q2 := dsOf_rp q1 e2
      cases e3 : lineOk ds.length with
      | false => rw [e3] at k; exact k.elim
      | true =>
        rw [e3] at k
        refine ⟨by rw [q2.length]; exact line_of e3, fun pp hp => ?_⟩
        have st := Stp.new (o := .tup vs) s1.s hp
        exact k _ _ _ (s1.trans st) (.tup upd_same (q2.mono st.g))
  | exc n x => rw [e] at k; exact k
  | bad => rw [e] at k; exact k
theorem sim_lst {ta : TA} {p : List SV → R (List SV)} (h : SimA c false ta p W) : SimN c (tLst ta) (pLst p) W := fun Ge He ρ σ G H r Q k => by
  refine h _ _ _ _ _ _ r _ ?_
  unfold pLst at k
  cases e : p ρ with
  | ok as =>
    rw [e] at k
    have k : NPost c W σ G H Q ((R.of (dsOf as)).bind fun ds => if lineOk ds.length = true then .ok ds else .bad) := k
    intro vs G1 H1 s1 q1
    cases e2 : dsOf as with
    | none => rw [e2] at k; exact k.elim
    | some ds =>
      rw [e2] at k
      have k : NPost c W σ G H Q (if lineOk ds.length = true then .ok ds else .bad) := k
      have q2 := dsOf_rp q1 e2
      cases e3 : lineOk ds.length with
      | false => rw [e3] at k; exact k.elim
      | true =>
        rw [e3] at k
        refine ⟨by rw [q2.length]; exact line_of e3, fun pp hp => ?_⟩
        have st := Stp.hid (o := .lst vs) s1.s hp
        exact k pp vs _ _ (Same.free s1.h hp) (s1.trans st) (Same.free s1.s hp) upd_same q2
  | exc n x => rw [e] at k; exact k
  | bad => rw [e] at k; exact k
end
end Sm

set_option Elab.async false
set_option linter.all false
set_option maxRecDepth 100000
set_option maxHeartbeats 2000000
/-! Sm2: operators, calls of built-ins and of one's own defs. -/
namespace Sm
open PySem PySem.Spec L2

/-! ### operators -/
def fAdd : PyData → PyData → Option PyData
  | .int i, .int j => some (.int (i + j))
  | .list xs, .list ys => if lineOk (xs.length + ys.length) = true then some (.list (xs ++ ys)) else none
  | .tuple xs, .tuple ys => if (!xs.isEmpty && lineOk (xs.length + ys.length)) = true then some (.tuple (xs ++ ys)) else none
  | _, _ => none
def fSub : PyData → PyData → Option PyData
  | .int i, .int j => some (.int (i - j))
  | _, _ => none
def mulOk (i j : Int) : Bool := decide (i.natAbs < 2 ^ 64) || decide (j.natAbs < 2 ^ 64)
def fMul : PyData → PyData → Option PyData
  | .int i, .int j => if mulOk i j = true then some (.int (i * j)) else none
  | .list xs, .int k => if decide (-1000 ≤ k ∧ k ≤ 1000 ∧ xs.length ≤ 1000) = true then some (.list (List.replicate k.toNat xs).flatten) else none
  | _, _ => none
def fDiv : PyData → PyData → Option PyData
  | .int i, .int j => if decide (j ≠ 0 ∧ j.natAbs < 1073741824) = true then some (.int (i.fdiv j)) else none
  | _, _ => none
def fMod : PyData → PyData → Option PyData
  | .int i, .int j => if decide (j ≠ 0) = true then some (.int (i.fmod j)) else none
  | _, _ => none
def fNeg : PyData → Option PyData
  | .int i => some (.int (-i))
  | _ => none
def fLt : PyData → PyData → Option PyData
  | .int i, .int j => some (.bool (decide (i < j)))
  | _, _ => none
def fLe : PyData → PyData → Option PyData
  | .int i, .int j => some (.bool (decide (i ≤ j)))
  | _, _ => none
def fGt : PyData → PyData → Option PyData
  | .int i, .int j => some (.bool (decide (j < i)))
  | _, _ => none
def fGe : PyData → PyData → Option PyData
  | .int i, .int j => some (.bool (decide (j ≤ i)))
  | _, _ => none
def fEq : PyData → PyData → Option PyData := fun a b => if (SeqAt.shaped a && SeqAt.shaped b) = true then some (.bool (PyData.eqv a b)) else none
def fNe : PyData → PyData → Option PyData := fun a b => if (SeqAt.shaped a && SeqAt.shaped b) = true then some (.bool (!PyData.eqv a b)) else none
def fIsB : PyData → PyData → Option PyData
  | .bool i, .bool j => some (.bool (decide (i = j)))
  | _, _ => none
def fNotB : PyData → PyData → Option PyData
  | .bool i, .bool j => some (.bool (!decide (i = j)))
  | _, _ => none
def fIsNone : PyData → PyData → Option PyData
  | .none, .none => some (.bool true)
  | _, .none => some (.bool false)
  | _, _ => none
def fNotNone : PyData → PyData → Option PyData
  | .none, .none => some (.bool false)
  | _, .none => some (.bool true)
  | _, _ => none
def fIx : Bool × List PyData → PyData → Option PyData := fun x i => match i with
  | .int k => atI x.2 k
  | _ => none

section
variable {X : Cx}
def rAddU (K : PySem.W.Frag) : R2 := fun x y H Q => rI0 (fun i j => .int (i + j)) x y H Q ∨ (fun x y H Q => rCat x y H Q ∨ rCatT K x y H Q) x y H Q
theorem op_addU : OpR X (binaryOp .Add) (rAddU X.K) := OpR.or op_add (OpR.or op_cat op_catT)
def rMulU : R2 := fun x y H Q => rI CMul (fun i j => .int (i * j)) x y H Q ∨ rRep x y H Q
theorem op_mulU : OpR X (binaryOp .Mult) rMulU := OpR.or op_mul op_rep
end
section
variable {K : PySem.W.Frag}
theorem os_add : OpS rlE rlE rlE (rAddU K) fAdd := fun G H x y a b z s ha hb e Q q => by
  have ha : Rp G x a := ha
  have hb : Rp G y b := hb
  cases ha with
  | int i =>
    cases hb with
    | int j => cases e; exact .inl ⟨i, j, rfl, rfl, q _ G H (Stp.refl s) (.int _)⟩
    | _ => cases e
  | @lst pa xs ds h1 h2 =>
    cases hb with
    | @lst pb ys es k1 k2 =>
      have e : (if lineOk (ds.length + es.length) = true then some (PyData.list (ds ++ es)) else none) = some z := e
      split at e
      · next hl =>
        cases e
        refine .inr (.inl ⟨_, _, _, _, rfl, rfl, s _ _ h1, s _ _ k1, ?_, fun p hp => ?_⟩)
        · rw [h2.length, k2.length]; exact line_of hl
        · have st := Stp.new (o := .lst (xs ++ ys)) s hp
          exact q _ _ _ st (.lst upd_same ((h2.append k2).mono st.g))
      · cases e
    | _ => cases e
  | @tup pa xs ds h1 h2 =>
    cases hb with
    | @tup pb ys es k1 k2 =>
      have e : (if (!ds.isEmpty && lineOk (ds.length + es.length)) = true then some (PyData.tuple (ds ++ es)) else none) = some z := e
      split at e
      · next hl =>
        cases e
        rw [Bool.and_eq_true] at hl
        have ne : xs ≠ [] := by
          rintro rfl
          cases h2
          cases hl.1
        refine .inr (.inr ⟨_, _, xs, ys, rfl, rfl, SqT.of (s _ _ h1), SqT.of (s _ _ k1), ne, ?_, fun hy => ?_, fun _ p hp => ?_⟩)
        · rw [h2.length, k2.length]; exact line_of hl.2
        · subst hy
          cases k2
          refine q _ G H (Stp.refl s) ?_
          rw [List.append_nil]
          exact .tup h1 h2
        · have st := Stp.new (o := .tup (xs ++ ys)) s hp
          exact q _ _ _ st (.tup upd_same ((h2.append k2).mono st.g))
      · cases e
    | _ => cases e
  | _ => cases e
theorem os_int {f : PyData → PyData → Option PyData} {C : Int → Int → Prop} {g : Int → Int → V} {g' : Int → Int → PyData} (hg : ∀ G i j, Rp G (g i j) (g' i j)) (hf : ∀ a b z, f a b = some z → ∃ i j, a = .int i ∧ b = .int j ∧ C i j ∧ z = g' i j) :
    OpS rlE rlE rlE (rI C g) f := fun G H x y a b z s ha hb e Q q => by
  obtain ⟨i, j, rfl, rfl, hc, rfl⟩ := hf a b z e
  have := Rp.ofInt ha
  subst this
  have := Rp.ofInt hb
  subst this
  exact ⟨i, j, rfl, rfl, hc, q _ G H (Stp.refl s) (hg _ _ _)⟩
theorem os_int0 {f : PyData → PyData → Option PyData} {g : Int → Int → V} {g' : Int → Int → PyData} (hg : ∀ G i j, Rp G (g i j) (g' i j)) (hf : ∀ a b z, f a b = some z → ∃ i j, a = .int i ∧ b = .int j ∧ z = g' i j) :
    OpS rlE rlE rlE (rI0 g) f := fun G H x y a b z s ha hb e Q q => by
  obtain ⟨i, j, rfl, rfl, rfl⟩ := hf a b z e
  have := Rp.ofInt ha
  subst this
  have := Rp.ofInt hb
  subst this
  exact ⟨i, j, rfl, rfl, q _ G H (Stp.refl s) (hg _ _ _)⟩
theorem os_sub : OpS rlE rlE rlE (rI0 fun i j => .int (i - j)) fSub := os_int0 (fun _ _ _ => .int _) fun a b z e => by
  cases a <;> cases b <;> cases e
  exact ⟨_, _, rfl, rfl, rfl⟩
theorem mul_ok {i j : Int} (h : mulOk i j = true) : CMul i j := by
  unfold mulOk at h
  rw [Bool.or_eq_true, decide_eq_true_eq, decide_eq_true_eq] at h
  unfold CMul
  omega
theorem os_mul : OpS rlE rlE rlE rMulU fMul := fun G H x y a b z s ha hb e Q q => by
  have ha : Rp G x a := ha
  have hb : Rp G y b := hb
  cases ha with
  | int i =>
    cases hb with
    | int j =>
      have e : (if mulOk i j = true then some (PyData.int (i * j)) else none) = some z := e
      split at e
      · next hl => cases e; exact .inl ⟨i, j, rfl, rfl, mul_ok hl, q _ G H (Stp.refl s) (.int _)⟩
      · cases e
    | _ => cases e
  | @lst pa xs ds h1 h2 =>
    cases hb with
    | int k =>
      have e : (if decide (-1000 ≤ k ∧ k ≤ 1000 ∧ ds.length ≤ 1000) = true then some (PyData.list (List.replicate k.toNat ds).flatten) else none) = some z := e
      split at e
      · next hl =>
        have hl := of_decide_eq_true hl
        cases e
        have hx := h2.length
        refine .inr ⟨_, k, xs, rfl, rfl, s _ _ h1, by omega, by omega, ?_, fun p hp => ?_⟩
        · have h3 : xs.length * k.toNat ≤ 1000 * 1000 := Nat.mul_le_mul (by omega) (by omega)
          rw [PySem.sizeLine_eq]
          omega
        · have st := Stp.new (o := .lst (List.replicate k.toNat xs).flatten) s hp
          have rep : ∀ n : Nat, RpAll G (List.replicate n xs).flatten (List.replicate n ds).flatten := by
            intro n
            induction n with
            | zero => exact .nil
            | succ n ih =>
              rw [List.replicate_succ, List.replicate_succ, List.flatten_cons, List.flatten_cons]
              exact h2.append ih
          exact q _ _ _ st (.lst upd_same ((rep k.toNat).mono st.g))
      · cases e
    | _ => cases e
  | _ => cases e
theorem os_div : OpS rlE rlE rlE (rI CDivN fun i j => .int (i.fdiv j)) fDiv := os_int (fun _ _ _ => .int _) fun a b z e => by
  cases a <;> cases b <;> try cases e
  next i j =>
  have e : (if decide (j ≠ 0 ∧ j.natAbs < 1073741824) = true then some (PyData.int (i.fdiv j)) else none) = some z := e
  split at e
  · next hl => cases e; exact ⟨_, _, rfl, rfl, (show CDivN _ _ by unfold CDivN; simpa using hl), rfl⟩
  · cases e
theorem os_mod : OpS rlE rlE rlE (rI (fun _ j => j ≠ 0) fun i j => .int (i.fmod j)) fMod := os_int (fun _ _ _ => .int _) fun a b z e => by
  cases a <;> cases b <;> try cases e
  next i j =>
  have e : (if decide (j ≠ 0) = true then some (PyData.int (i.fmod j)) else none) = some z := e
  split at e
  · next hl => cases e; exact ⟨_, _, rfl, rfl, of_decide_eq_true hl, rfl⟩
  · cases e
theorem us_neg : UnS rlE rlE (rU fun i => .int (-i)) fNeg := fun G H x a z s ha e Q q => by
  cases a <;> cases e
  have := Rp.ofInt ha
  subst this
  exact ⟨_, rfl, q _ G H (Stp.refl s) (.int _)⟩
theorem os_lt : OpS rlE rlE rlE (rI0 fun i j => .bl (decide (i < j))) fLt := os_int0 (fun _ _ _ => .bl _) fun a b z e => by
  cases a <;> cases b <;> cases e
  exact ⟨_, _, rfl, rfl, rfl⟩
theorem os_le : OpS rlE rlE rlE (rI0 fun i j => .bl (decide (i ≤ j))) fLe := os_int0 (fun _ _ _ => .bl _) fun a b z e => by
  cases a <;> cases b <;> cases e
  exact ⟨_, _, rfl, rfl, rfl⟩
theorem os_gt : OpS rlE rlE rlE (rI0 fun i j => .bl (decide (j < i))) fGt := os_int0 (fun _ _ _ => .bl _) fun a b z e => by
  cases a <;> cases b <;> cases e
  exact ⟨_, _, rfl, rfl, rfl⟩
theorem os_ge : OpS rlE rlE rlE (rI0 fun i j => .bl (decide (j ≤ i))) fGe := os_int0 (fun _ _ _ => .bl _) fun a b z e => by
  cases a <;> cases b <;> cases e
  exact ⟨_, _, rfl, rfl, rfl⟩
theorem os_eq : OpS rlR rlR rlE (rEqD K) fEq := fun G H x y a b z s ha hb e Q q => by
  unfold fEq at e
  split at e
  · next h =>
    cases e
    rw [Bool.and_eq_true] at h
    exact ⟨a, b, Rp.dp ha, Rp.dp hb, h.1, h.2, q _ G H (Stp.refl s) (.bl _)⟩
  · cases e
theorem os_ne : OpS rlR rlR rlE (rNeD K) fNe := fun G H x y a b z s ha hb e Q q => by
  unfold fNe at e
  split at e
  · next h =>
    cases e
    rw [Bool.and_eq_true] at h
    exact ⟨a, b, Rp.dp ha, Rp.dp hb, h.1, h.2, q _ G H (Stp.refl s) (.bl _)⟩
  · cases e
theorem os_isB : OpS rlE rlE rlE rIsB fIsB := fun G H x y a b z s ha hb e Q q => by
  cases a <;> cases b <;> cases e
  have := Rp.ofBool ha
  subst this
  have := Rp.ofBool hb
  subst this
  exact ⟨_, _, rfl, rfl, q _ G H (Stp.refl s) (.bl _)⟩
theorem os_notB : OpS rlE rlE rlE rNotB fNotB := fun G H x y a b z s ha hb e Q q => by
  cases a <;> cases b <;> cases e
  have := Rp.ofBool ha
  subst this
  have := Rp.ofBool hb
  subst this
  exact ⟨_, _, rfl, rfl, q _ G H (Stp.refl s) (.bl _)⟩
theorem os_isN : OpS rlE rlE rlE (fun x y H Q => y = .non ∧ Q (.bl (decide (x = .non))) H) fIsNone := fun G H x y a b z s ha hb e Q q => by
  have ha : Rp G x a := ha
  have hb : Rp G y b := hb
  cases hb with
  | non =>
    refine ⟨rfl, ?_⟩
    cases ha with
    | non => cases e; exact q _ G H (Stp.refl s) (.bl _)
    | _ => cases e; exact q _ G H (Stp.refl s) (.bl _)
  | _ => cases ha <;> cases e
theorem os_notN : OpS rlE rlE rlE (fun x y H Q => y = .non ∧ Q (.bl (!decide (x = .non))) H) fNotNone := fun G H x y a b z s ha hb e Q q => by
  have ha : Rp G x a := ha
  have hb : Rp G y b := hb
  cases hb with
  | non =>
    refine ⟨rfl, ?_⟩
    cases ha with
    | non => cases e; exact q _ G H (Stp.refl s) (.bl _)
    | _ => cases e; exact q _ G H (Stp.refl s) (.bl _)
  | _ => cases ha <;> cases e
theorem atI_rp {G : Hp} {vs : List V} {ds : List PyData} {k : Int} {d : PyData} (h : RpAll G vs ds) (e : atI ds k = some d) : ∃ v, atI vs k = some v ∧ Rp G v d := by
  unfold atI at e ⊢
  rw [h.length]
  cases e2 : ixN ds.length k with
  | none => rw [e2] at e; cases e
  | some j =>
    rw [e2] at e
    exact h.get e
theorem os_ix : OpS rlV rlE rlE (rIx K) fIx := fun G H x y a b z s ha hb e Q q => by
  obtain ⟨p, vs, rfl, h1, h2⟩ := ha
  cases b with
  | int k =>
    have := Rp.ofInt hb
    subst this
    obtain ⟨v, e1, e2⟩ := atI_rp h2 e
    have fin : Q v H := q v G H (Stp.refl s) e2
    split at h1
    · exact .inr (.inl ⟨p, vs, k, v, rfl, rfl, SqT.of h1, e1, fin⟩)
    · exact .inl ⟨p, vs, k, v, rfl, rfl, SqL.of h1, e1, fin⟩
  | _ => cases e

/-! ### built-ins -/
def intsOf : List PyData → Option (List Int)
  | [] => some []
  | .int i :: r => (intsOf r).map (i :: ·)
  | _ :: _ => none
theorem intsOf_map : ∀ (ns : List Int), intsOf (ns.map PyData.int) = some ns
  | [] => rfl
  | n :: r => by
    show (intsOf (r.map PyData.int)).map (n :: ·) = _
    rw [intsOf_map r]
    rfl
theorem intsOf_eq : ∀ {ds : List PyData} {ns : List Int}, intsOf ds = some ns → ds = ns.map PyData.int
  | [], ns, h => by cases h; rfl
  | .int i :: r, ns, h => by
    unfold intsOf at h
    cases e : intsOf r with
    | none => rw [e] at h; cases h
    | some z => rw [e] at h; cases h; rw [intsOf_eq e]; rfl
  | .none :: r, ns, h => by cases h
  | .bool _ :: r, ns, h => by cases h
  | .str _ :: r, ns, h => by cases h
  | .list _ :: r, ns, h => by cases h
  | .tuple _ :: r, ns, h => by cases h
  | .dict _ :: r, ns, h => by cases h
def maxL : List Int → Int
  | [] => 0
  | x :: r => r.foldl max x
def minL : List Int → Int
  | [] => 0
  | x :: r => r.foldl min x
theorem foldl_max_ge : ∀ (r : List Int) (x : Int), x ≤ r.foldl max x ∧ ∀ y ∈ r, y ≤ r.foldl max x
  | [], x => ⟨Int.le_refl x, fun y h => by cases h⟩
  | z :: r, x => by
    obtain ⟨h1, h2⟩ := foldl_max_ge r (max x z)
    show x ≤ r.foldl max (max x z) ∧ _
    refine ⟨by omega, fun y hy => ?_⟩
    show y ≤ r.foldl max (max x z)
    rcases List.mem_cons.mp hy with e | e
    · subst e; omega
    · exact h2 y e
theorem foldl_max_mem : ∀ (r : List Int) (x : Int), r.foldl max x = x ∨ r.foldl max x ∈ r
  | [], x => .inl rfl
  | z :: r, x => by
    show r.foldl max (max x z) = x ∨ r.foldl max (max x z) ∈ z :: r
    rcases foldl_max_mem r (max x z) with h | h
    · by_cases hz : x ≤ z
      · refine .inr ?_
        rw [h]
        have : max x z = z := by omega
        rw [this]
        exact List.mem_cons_self
      · refine .inl ?_
        rw [h]; omega
    · exact .inr (List.mem_cons_of_mem _ h)
theorem foldl_min_le : ∀ (r : List Int) (x : Int), r.foldl min x ≤ x ∧ ∀ y ∈ r, r.foldl min x ≤ y
  | [], x => ⟨Int.le_refl x, fun y h => by cases h⟩
  | z :: r, x => by
    obtain ⟨h1, h2⟩ := foldl_min_le r (min x z)
    show r.foldl min (min x z) ≤ x ∧ _
    refine ⟨by omega, fun y hy => ?_⟩
    show r.foldl min (min x z) ≤ y
    rcases List.mem_cons.mp hy with e | e
    · subst e; omega
    · exact h2 y e
theorem foldl_min_mem : ∀ (r : List Int) (x : Int), r.foldl min x = x ∨ r.foldl min x ∈ r
  | [], x => .inl rfl
  | z :: r, x => by
    show r.foldl min (min x z) = x ∨ r.foldl min (min x z) ∈ z :: r
    rcases foldl_min_mem r (min x z) with h | h
    · by_cases hz : z ≤ x
      · refine .inr ?_
        rw [h]
        have : min x z = z := by omega
        rw [this]
        exact List.mem_cons_self
      · refine .inl ?_
        rw [h]; omega
    · exact .inr (List.mem_cons_of_mem _ h)
theorem maxL_ge {l : List Int} {y : Int} (h : y ∈ l) : y ≤ maxL l := by
  cases l with
  | nil => cases h
  | cons x r =>
    have := foldl_max_ge r x
    rcases List.mem_cons.mp h with e | e
    · subst e; exact this.1
    · exact this.2 y e
theorem maxL_mem {l : List Int} (h : l ≠ []) : maxL l ∈ l := by
  cases l with
  | nil => exact absurd rfl h
  | cons x r =>
    show r.foldl max x ∈ x :: r
    rcases foldl_max_mem r x with e | e
    · rw [e]; exact List.mem_cons_self
    · exact List.mem_cons_of_mem _ e
theorem minL_le {l : List Int} {y : Int} (h : y ∈ l) : minL l ≤ y := by
  cases l with
  | nil => cases h
  | cons x r =>
    have := foldl_min_le r x
    rcases List.mem_cons.mp h with e | e
    · subst e; exact this.1
    · exact this.2 y e
theorem minL_mem {l : List Int} (h : l ≠ []) : minL l ∈ l := by
  cases l with
  | nil => exact absurd rfl h
  | cons x r =>
    show r.foldl min x ∈ x :: r
    rcases foldl_min_mem r x with e | e
    · rw [e]; exact List.mem_cons_self
    · exact List.mem_cons_of_mem _ e

def fLen : Bool × List PyData → Option PyData := fun x => some (.int x.2.length)
def fTuple : Bool × List PyData → Option PyData := fun x => some (.tuple x.2)
def fList : Bool × List PyData → Option (List PyData) := fun x => some x.2
def fSum : Bool × List PyData → Option PyData := fun x => if x.1 = true then none else (intsOf x.2).map fun ns => .int ns.sum
def fMaxL : Bool × List PyData → Option PyData := fun x => if x.1 = true then none else match intsOf x.2 with
  | some (n :: r) => some (.int (maxL (n :: r)))
  | _ => none
def fMinL : Bool × List PyData → Option PyData := fun x => if x.1 = true then none else match intsOf x.2 with
  | some (n :: r) => some (.int (minL (n :: r)))
  | _ => none
def fMax2 : PyData → PyData → Option PyData
  | .int i, .int j => some (.int (if j > i then j else i))
  | _, _ => none
def fMin2 : PyData → PyData → Option PyData
  | .int i, .int j => some (.int (if j < i then j else i))
  | _, _ => none
def fInt1 : PyData → Option PyData
  | .int i => some (.int i)
  | .bool b => some (.int (if b then 1 else 0))
  | _ => none
def fAbs : PyData → Option PyData
  | .int i => some (.int (if i < 0 then -i else i))
  | _ => none
theorem rlV_sq {G H : Hp} {x : V} {a : Bool × List PyData} (K : PySem.W.Frag) (h : rlV G H x a) : ∃ p vs, x = .ref p ∧ RpAll G vs a.2 ∧ ((a.1 = true ∧ H p = some (.tup vs)) ∨ (a.1 = false ∧ H p = some (.lst vs))) := by
  obtain ⟨p, vs, e, h1, h2⟩ := h
  refine ⟨p, vs, e, h2, ?_⟩
  split at h1
  · next t => exact .inl ⟨t, h1⟩
  · next t => exact .inr ⟨by simpa using t, h1⟩
theorem us_len : UnS rlV rlE (fun x H Q => (fun (xs : List V) (H : Hp) (Q : VK) => ∃ p ys, xs = [.ref p] ∧ (SqL K H p ys ∨ SqT K H p ys) ∧ Q (.int ys.length) H) [x] H Q) fLen := fun G H x a z s ha e Q q => by
  obtain ⟨p, vs, rfl, h2, h⟩ := rlV_sq K ha
  cases e
  refine ⟨p, vs, rfl, ?_, ?_⟩
  · rcases h with ⟨_, h⟩ | ⟨_, h⟩
    · exact .inr (SqT.of h)
    · exact .inl (SqL.of h)
  · rw [h2.length]; exact q _ G H (Stp.refl s) (.int _)
theorem us_tuple : UnS rlV rlE (fun x H Q => (fun (xs : List V) (H : Hp) (Q : VK) => ∃ p ys, xs = [.ref p] ∧ ((SqL K H p ys ∧ ∀ l, H l = none → Q (.ref l) (upd H l (.tup ys))) ∨ (SqT K H p ys ∧ Q (.ref p) H))) [x] H Q) fTuple := fun G H x a z s ha e Q q => by
  obtain ⟨p, vs, rfl, h2, h⟩ := rlV_sq K ha
  cases e
  refine ⟨p, vs, rfl, ?_⟩
  rcases h with ⟨_, h⟩ | ⟨_, h⟩
  · refine .inr ⟨SqT.of h, ?_⟩
    -- the tuple itself: it is seen from now on
    by_cases hg : ∃ o, G p = some o
    · obtain ⟨o, hg⟩ := hg
      have := s _ _ hg
      rw [h] at this
      cases this
      exact q _ G H (Stp.refl s) (.tup hg h2)
    · have gp : G p = none := by
        cases e : G p with
        | none => rfl
        | some o => exact absurd ⟨o, e⟩ hg
      have sh := Stp.show (o := .tup vs) s h gp
      refine q _ (upd G p (.tup vs)) H ⟨sh.1, Same.refl H, sh.2, fun b o eb m n => ?_⟩ (.tup upd_same (h2.mono sh.1))
      by_cases hb : b = p
      · subst hb
        rw [h] at eb
        cases eb
        cases m
      · rw [upd_ne hb]; exact n
  · refine .inl ⟨SqL.of h, fun l hl => ?_⟩
    have st := Stp.new (o := .tup vs) s hl
    exact q _ _ _ st (.tup upd_same (h2.mono st.g))
theorem un_list : UnN rlV (fun x H Q => (fun (xs : List V) (H : Hp) (Q : VK) => ∃ p ys, xs = [.ref p] ∧ (SqL K H p ys ∨ SqT K H p ys) ∧ ∀ l, H l = none → Q (.ref l) (upd H l (.lst ys))) [x] H Q) fList := fun G H x a z s ha e Q q => by
  obtain ⟨p, vs, rfl, h2, h⟩ := rlV_sq K ha
  cases e
  refine ⟨p, vs, rfl, ?_, fun l hl => ?_⟩
  · rcases h with ⟨_, h⟩ | ⟨_, h⟩
    · exact .inr (SqT.of h)
    · exact .inl (SqL.of h)
  · exact q l vs G _ hl (Stp.hid s hl) (Same.free s hl) upd_same h2
theorem rlV_ints {G H : Hp} {x : V} {a : Bool × List PyData} {ns : List Int} (K : PySem.W.Frag) (h : rlV G H x a) (t : ¬ a.1 = true) (e : intsOf a.2 = some ns) : ∃ p, x = .ref p ∧ SqL K H p (ns.map V.int) := by
  obtain ⟨p, vs, rfl, h2, h⟩ := rlV_sq K h
  rw [intsOf_eq e] at h2
  have := RpAll.ofInts h2
  subst this
  rcases h with ⟨t', _⟩ | ⟨_, h⟩
  · exact absurd t' t
  · exact ⟨p, rfl, SqL.of h⟩
theorem us_sum : UnS rlV rlE (fun x H Q => rSum K [x] H Q) fSum := fun G H x a z s ha e Q q => by
  unfold fSum at e
  split at e
  · cases e
  · next t =>
    cases e2 : intsOf a.2 with
    | none => rw [e2] at e; cases e
    | some ns =>
      rw [e2] at e
      cases e
      obtain ⟨p, rfl, h⟩ := rlV_ints K ha t e2
      exact ⟨p, ns, rfl, h, q _ G H (Stp.refl s) (.int _)⟩
theorem us_maxL : UnS rlV rlE (fun x H Q => rMax K [x] H Q) fMaxL := fun G H x a z s ha e Q q => by
  unfold fMaxL at e
  split at e
  · cases e
  · next t =>
    split at e
    · next n r e2 =>
      cases e
      obtain ⟨p, rfl, h⟩ := rlV_ints K ha t e2
      refine ⟨p, _, rfl, h, by simp, fun m hm hle => ?_⟩
      have h1 := hle _ (maxL_mem (l := n :: r) (by simp))
      have h2 := maxL_ge hm
      have : m = maxL (n :: r) := by omega
      rw [this]
      exact q _ G H (Stp.refl s) (.int _)
    · cases e
theorem us_minL : UnS rlV rlE (fun x H Q => rMin K [x] H Q) fMinL := fun G H x a z s ha e Q q => by
  unfold fMinL at e
  split at e
  · cases e
  · next t =>
    split at e
    · next n r e2 =>
      cases e
      obtain ⟨p, rfl, h⟩ := rlV_ints K ha t e2
      refine ⟨p, _, rfl, h, by simp, fun m hm hle => ?_⟩
      have h1 := hle _ (minL_mem (l := n :: r) (by simp))
      have h2 := minL_le hm
      have : m = minL (n :: r) := by omega
      rw [this]
      exact q _ G H (Stp.refl s) (.int _)
    · cases e
theorem os_max2 : OpS rlE rlE rlE (fun x y H Q => (fun (xs : List V) (H : Hp) (Q : VK) => ∃ i j, xs = [.int i, .int j] ∧ Q (.int (if j > i then j else i)) H) [x, y] H Q) fMax2 := fun G H x y a b z s ha hb e Q q => by
  cases a <;> cases b <;> cases e
  have := Rp.ofInt ha
  subst this
  have := Rp.ofInt hb
  subst this
  exact ⟨_, _, rfl, q _ G H (Stp.refl s) (.int _)⟩
theorem os_min2 : OpS rlE rlE rlE (fun x y H Q => (fun (xs : List V) (H : Hp) (Q : VK) => ∃ i j, xs = [.int i, .int j] ∧ Q (.int (if j < i then j else i)) H) [x, y] H Q) fMin2 := fun G H x y a b z s ha hb e Q q => by
  cases a <;> cases b <;> cases e
  have := Rp.ofInt ha
  subst this
  have := Rp.ofInt hb
  subst this
  exact ⟨_, _, rfl, q _ G H (Stp.refl s) (.int _)⟩
theorem us_int1 : UnS rlE rlE (fun x H Q => (fun (xs : List V) (H : Hp) (Q : VK) => (∃ i, xs = [.int i] ∧ Q (.int i) H) ∨ ∃ k, xs = [.bl k] ∧ Q (.int (if k then 1 else 0)) H) [x] H Q) fInt1 := fun G H x a z s ha e Q q => by
  cases a <;> cases e
  · have := Rp.ofBool ha
    subst this
    exact .inr ⟨_, rfl, q _ G H (Stp.refl s) (.int _)⟩
  · have := Rp.ofInt ha
    subst this
    exact .inl ⟨_, rfl, q _ G H (Stp.refl s) (.int _)⟩
theorem us_abs : UnS rlE rlE (fun x H Q => (fun (xs : List V) (H : Hp) (Q : VK) => ∃ i, xs = [.int i] ∧ Q (.int (if i < 0 then -i else i)) H) [x] H Q) fAbs := fun G H x a z s ha e Q q => by
  cases a <;> cases e
  have := Rp.ofInt ha
  subst this
  exact ⟨_, rfl, q _ G H (Stp.refl s) (.int _)⟩

/-! ### isinstance -/
def tyN : PyData → String
  | .none => "NoneType"
  | .bool _ => "bool"
  | .int _ => "int"
  | .str _ => "str"
  | .list _ => "list"
  | .tuple _ => "tuple"
  | .dict _ => "dict"
def fIsi (T : String) : PyData → Option PyData := fun d => (kitB (tyN d) T).map .bool
def fIsi2 (T T' : String) : PyData → Option PyData := fun d => match kitB (tyN d) T with
  | some true => some (.bool true)
  | some false => (kitB (tyN d) T').map .bool
  | none => none
theorem tyX_of {H : Hp} {v : V} {d : PyData} (h : Rp H v d) : TyX K H v (.type (tyN d)) := by
  cases h with
  | non => exact .base .non
  | bl b => exact .base (.bl b)
  | int i => exact .base (.int i)
  | str x => exact .base (.str x)
  | lst h _ => exact .base (.lst h)
  | tup h _ => exact .base (.tup h)
section
variable {c : Cf} {W : WX}
theorem sim_isi {te : TE} {p : List SV → R PyData} (T : String) (h : Sim c rlR te p W) : Sim c rlE (tCB (rIsi K) (tCons te (tCons (tC (.ty T)) tNil))) (p1 (fIsi T) p) W := fun Ge He ρ σ G H r Q k => by
  refine h Ge He ρ σ G H r _ ?_
  unfold p1 at k
  cases e : p ρ with
  | ok a =>
    rw [e] at k
    have k : EPost c rlE W σ G H Q (R.of (fIsi T a)) := k
    intro v G' H' s q
    unfold fIsi at k
    cases e2 : kitB (tyN a) T with
    | none => rw [e2] at k; exact k.elim
    | some b =>
      rw [e2] at k
      exact ⟨v, .ty T, _, _, b, rfl, .ty T, tyX_of q, kit_ty e2, k _ G' H' s (.bl b)⟩
  | exc n x => rw [e] at k; exact k
  | bad => rw [e] at k; exact k
theorem sim_isi2 {te : TE} {p : List SV → R PyData} (T T' : String) (h : Sim c rlR te p W) : Sim c rlE (tCB (rIsiT K) (tCons te (tCons (tTup (tCons (tC (.ty T)) (tCons (tC (.ty T')) tNil))) tNil))) (p1 (fIsi2 T T') p) W := fun Ge He ρ σ G H r Q k => by
  refine h Ge He ρ σ G H r _ ?_
  unfold p1 at k
  cases e : p ρ with
  | ok a =>
    rw [e] at k
    have k : EPost c rlE W σ G H Q (R.of (fIsi2 T T' a)) := k
    intro v G' H' s q
    refine ⟨by show 2 ≤ sizeLine; decide, fun tp htp => ?_⟩
    have st := Stp.hid (o := .tup [.ty T, .ty T']) s.s htp
    have tx := tyX_of (K := K) (Rp.mono st.h q)
    have pr : Paired ClsV [.ty T, .ty T'] [.type T, .type T'] := .cons (.ty T) (.cons (.ty T') .nil)
    unfold fIsi2 at k
    cases e2 : kitB (tyN a) T with
    | none => rw [e2] at k; exact k.elim
    | some b =>
      rw [e2] at k
      cases b with
      | true =>
        refine ⟨v, tp, _, _, _, true, rfl, upd_same, pr, tx, kitAny_cons (kit_ty e2) (fun z => by cases z) (fun _ => rfl), ?_⟩
        exact k _ _ _ (s.trans st) (.bl true)
      | false =>
        cases e3 : kitB (tyN a) T' with
        | none =>
          have k : EPost c rlE W σ G H Q (R.of ((kitB (tyN a) T').map .bool)) := k
          rw [e3] at k; exact k.elim
        | some b' =>
          have k : EPost c rlE W σ G H Q (R.of ((kitB (tyN a) T').map .bool)) := k
          rw [e3] at k
          refine ⟨v, tp, _, _, _, b', rfl, upd_same, pr, tx, kitAny_cons (kit_ty e2) (fun _ => kitAny_cons (kit_ty e3) (fun z => by rw [z]; exact kitAny_nil) (fun z => z)) (fun z => by cases z), ?_⟩
          exact k _ _ _ (s.trans st) (.bl b')
  | exc n x => rw [e] at k; exact k
  | bad => rw [e] at k; exact k
end
end
end Sm

set_option Elab.async false
set_option linter.all false
set_option maxRecDepth 100000
set_option maxHeartbeats 2000000
/-! Sm3: calls, statements, loops, comprehensions. -/
namespace Sm
open PySem PySem.Spec L2

/-! ### a def as a plain function -/
inductive Fl where
  | nx (ρ : List SV)
  | rt (d : PyData)
  | bk (ρ : List SV)
  | ct (ρ : List SV)
  | xc (n : Nat) (x : PyData) (ρ : List SV)
  | bad
def Post (c : Cf) (Ge He : Hp) (D : Ends) (W : WX) : Fl → Prop
  | .nx ρ' => ∀ σ' G' H', Rep c Ge He ρ' σ' G' H' → D.nx σ' H'
  | .rt d => ∀ v G' H', Stp Ge He G' H' → Rp G' v d → D.rt v H'
  | .bk ρ' => ∀ σ' G' H', Rep c Ge He ρ' σ' G' H' → D.bk σ' H'
  | .ct ρ' => ∀ σ' G' H', Rep c Ge He ρ' σ' G' H' → D.ct σ' H'
  | .xc n x ρ' => ∀ cls d σ' G' H', Rep c Ge He ρ' σ' G' H' → XRep c n x cls d G' H' → W cls d σ' H'
  | .bad => False
def SimS (c : Cf) (t : TS) (p : List SV → Fl) (W : WX) : Prop := ∀ Ge He ρ σ G H (D : Ends), Rep c Ge He ρ σ G H → Post c Ge He D W (p ρ) → t D σ H

def FPost (c : Cf) (G H : Hp) (Q : VK) (E : XK) : R PyData → Prop
  | .ok d => ∀ v G' H', Stp G H G' H' → Rp G' v d → Q v H'
  | .exc n x => ∀ cls d G' H', Stp G H G' H' → XRep c n x cls d G' H' → E cls d H'
  | .bad => False
def spF (c : Cf) (pf : List SV → R PyData) : Sp := fun vs H Q E => ∃ G as, Same G H ∧ Paired (ArgRep c G) vs as ∧ FPost c G H Q E (pf as)
def endF : Fl → R PyData
  | .nx _ => .ok .none
  | .rt d => .ok d
  | .xc n x _ => .exc n x
  | _ => .bad
def runF (n N : Nat) (p : List SV → Fl) : List SV → R PyData := fun as => if as.length = n then endF (p (as ++ List.replicate (N - n) .un)) else .bad
theorem paired_get {c : Cf} {G : Hp} : ∀ {vs : List V} {as : List SV} {i : Nat} {s : SV}, Paired (ArgRep c G) vs as → as[i]? = some s → ∃ v, vs[i]? = some v ∧ ArgRep c G v s
  | _, _, _, _, .nil, e => by simp at e
  | _, _, 0, _, .cons h _, e => by simp at e; subst e; exact ⟨_, rfl, h⟩
  | _, _, i + 1, _, .cons _ k, e => by
    obtain ⟨v, h1, h2⟩ := paired_get (i := i) k (by simpa using e)
    exact ⟨v, by simpa using h1, h2⟩
theorem rep_start {c : Cf} {G H : Hp} {vs : List V} {as : List SV} {N : List Str} {n : Nat} (s : Same G H) (h : Paired (ArgRep c G) vs as) (hn : as.length = n) (hN : n ≤ N.length) :
    Rep c G H (as ++ List.replicate (N.length - n) .un) (L2.start N vs) G H := by
  have hl := Paired.length h
  have inA : ∀ (i : Nat) (t : SV), (as ++ List.replicate (N.length - n) SV.un)[i]? = some t → (∃ v, (L2.start N vs)[i]? = some (some v) ∧ ArgRep c G v t) ∨ t = .un := by
    intro i t e
    by_cases hi : i < as.length
    · rw [List.getElem?_append_left hi] at e
      obtain ⟨v, h1, h2⟩ := paired_get h e
      refine .inl ⟨v, ?_, h2⟩
      unfold L2.start
      rw [List.getElem?_append_left (by rw [List.length_map]; omega), List.getElem?_map, h1]
      rfl
    · rw [List.getElem?_append_right (by omega), List.getElem?_replicate] at e
      split at e
      · cases e; exact .inr rfl
      · cases e
  have noO : ∀ i p, ¬ OwnsAt (as ++ List.replicate (N.length - n) SV.un) (L2.start N vs) i p := by
    rintro i p ⟨⟨t, e, ht⟩, _⟩
    rcases inA i t e with ⟨v, _, h2⟩ | h2
    cases t with
    | own x => exact h2.elim
    | oins a x => exact h2.elim
    | jnk => exact h2.elim
    | _ => cases ht
    · rw [h2] at ht; cases ht
  refine ⟨Stp.refl s, ?_, fun i t e => ?_, fun i j p x _ => absurd x (noO i p), fun i x e => ?_⟩
  · unfold L2.start
    simp
    omega
  · rcases inA i t e with ⟨v, h1, h2⟩ | h2
    · rw [h1]
      cases t with
      | d x => exact ⟨v, rfl, h2⟩
      | ins x => exact ⟨v, rfl, h2⟩
      | scr x => exact ⟨v, rfl, h2⟩
      | un => trivial
      | fre x => trivial
      | own x => exact h2.elim
      | oins a x => exact h2.elim
      | jnk => exact h2.elim
    · rw [h2]; trivial
  · rcases inA i _ e with ⟨v, h1, h2⟩ | h2
    · exact h2.elim
    · cases h2
theorem fn_sim {c : Cf} {P : Program} {w : World} {K : PySem.W.Frag} {mg : Str → Option Value} {base : Heap} {x qual : Str} {st : Stmt} {f : Addr} {fd : FuncData} {N ps : List Str} {k : Nat} {p : List SV → Fl} (F : Fun K x qual st f fd) (S : FnScope N ps (defScope st))
    (hb : ∀ (cdv : Value) (A : Around) (outer : List Env) (s : Shared) (H : Hp) (E : XK), Room k (A.deeper (PyProof.Rows.envOfC qual (defScope st) s.heap.objs.size f cdv)) →
      ∃ t, PSs (cxOf (L2.CX P w) P w K mg base N qual (defScope st) f cdv A outer s H E) (defBody st) t ∧ SimS c t p (fun cls d _ H => E cls d H)) :
    FnOk P w K mg base (L2.CX P w) (k + 1) f fd ps (spF c (runF ps.length N.length p)) := by
  have hpl : ps.length ≤ N.length := by have := congrArg List.length S.pre; rw [List.length_take] at this; omega
  have len : ∀ vs H Q E, spF c (runF ps.length N.length p) vs H Q E → vs.length = ps.length := by
    rintro vs H Q E ⟨G, as, s, pr, post⟩
    unfold runF at post
    split at post
    · next h => rw [Paired.length pr]; exact h
    · exact post.elim
  refine F.okX S len fun cdv A outer s H vs Q E hr h => ?_
  obtain ⟨t, h1, h2⟩ := hb cdv A outer s H E hr
  obtain ⟨G, as, sg, pr, post⟩ := h
  unfold runF at post
  split at post
  · next hn =>
    refine ⟨t, h1, h2 G H _ _ G H _ (rep_start sg pr hn hpl) ?_⟩
    cases e : p (as ++ List.replicate (N.length - ps.length) .un) with
    | nx ρ' => rw [e] at post; exact fun σ' G' H' r => post .non G' H' r.st .non
    | rt d => rw [e] at post; exact post
    | xc n x ρ' => rw [e] at post; exact fun cls d σ' G' H' r xr => post cls d G' H' r.st xr
    | bk ρ' => rw [e] at post; exact post.elim
    | ct ρ' => rw [e] at post; exact post.elim
    | bad => rw [e] at post; exact post.elim
  · exact post.elim

/-- a def of the text that is a plain function -/
structure Fd (c : Cf) (P : Program) (w : World) (K : PySem.W.Frag) (mg : Str → Option Value) (base : Heap) (x : Str) (k : Nat) (pf : List SV → R PyData) : Prop where
  ex : ∃ (f : Addr) (fd : FuncData) (ps : List Str), FnOk P w K mg base (L2.CX P w) k f fd ps (spF c pf) ∧ mg x = some (.ref f) ∧ PySem.W.keepIn K (.ref f) = true ∧ Binds K fd ps []
/-- a method of the class -/
structure Md (c : Cf) (P : Program) (w : World) (K : PySem.W.Frag) (mg : Str → Option Value) (base : Heap) (m : Str) (k : Nat) (pf : List SV → R PyData) : Prop where
  ex : ∃ (f : Addr) (fd : FuncData) (ps : List Str), FnOk P w K mg base (L2.CX P w) k f fd ps (spF c pf) ∧ Meth K c.C m f ∧ Binds K fd ps []

/-! ### list-free data -/
mutual
def lf : PyData → Bool
  | .list _ => false
  | .dict _ => false
  | .tuple xs => lfAll xs
  | _ => true
def lfAll : List PyData → Bool
  | [] => true
  | x :: r => lf x && lfAll r
end
/-- the seen world with all tuples -/
def tupV (G H : Hp) : Hp := fun a => match H a with
  | some (.tup xs) => some (.tup xs)
  | _ => G a
mutual
theorem Rp.lf {G G' H : Hp} (s : Same G' H) : ∀ {v : V} {d : PyData}, Rp G' v d → Sm.lf d = true → Rp (tupV G H) v d
  | _, _, .non, _ => .non
  | _, _, .bl b, _ => .bl b
  | _, _, .int i, _ => .int i
  | _, _, .str x, _ => .str x
  | _, _, .lst h k, e => by unfold Sm.lf at e; cases e
  | _, _, .tup h k, e => .tup (by unfold tupV; rw [s _ _ h]) (RpAll.lf s k (by unfold Sm.lf at e; exact e))
theorem RpAll.lf {G G' H : Hp} (s : Same G' H) : ∀ {vs : List V} {ds : List PyData}, RpAll G' vs ds → lfAll ds = true → RpAll (tupV G H) vs ds
  | _, _, .nil, _ => .nil
  | _, _, .cons h k, e => by
    unfold lfAll at e
    rw [Bool.and_eq_true] at e
    exact .cons (Rp.lf s h e.1) (RpAll.lf s k e.2)
end
theorem Stp.tups {G H H' : Hp} (s : Same G H) (h : Same H H') : Stp G H (tupV G H') H' := by
  refine ⟨fun a o e => ?_, h, fun a o e => ?_, fun a o e m n => ?_⟩
  · have := h _ _ (s _ _ e)
    unfold tupV
    rw [this]
    cases o <;> first | rfl | exact e
  · unfold tupV at e
    split at e
    · next xs q => cases e; exact q
    · exact h _ _ (s _ _ e)
  · unfold tupV
    rw [h _ _ e]
    cases o <;> first | exact n | cases m
def R.lf : R PyData → R PyData
  | .ok d => if Sm.lf d = true then .ok d else .bad
  | .exc n x => if Sm.lf x = true then .exc n x else .bad
  | .bad => .bad

/-! ### calls -/
def pCall (pf : List SV → R PyData) (pa : List SV → R (List SV)) : List SV → R PyData := fun ρ => (pa ρ).bind pf
def pCallR (pf : List SV → R PyData) (pa : List SV → R (List SV)) : List SV → R PyData := fun ρ => (pa ρ).bind fun as => (pf as).lf
def pMeth (pf : List SV → R PyData) (po : List SV → R (List PyData)) (pa : List SV → R (List SV)) : List SV → R PyData := fun ρ => (po ρ).bind fun fs => (pa ρ).bind fun as => pf (.ins fs :: as)
def pMethR (pf : List SV → R PyData) (po : List SV → R (List PyData)) (pa : List SV → R (List SV)) : List SV → R PyData := fun ρ => (po ρ).bind fun fs => (pa ρ).bind fun as => (pf (.ins fs :: as)).lf
section
variable {c : Cf} {W : WX}
theorem FPost.of {σ : L2.St} {G H G1 H1 : Hp} {Q : VK} {r : R PyData} (s : Stp G H G1 H1) (k : EPost c rlE W σ G H Q r) : FPost c G1 H1 Q (WE W σ) r := by
  cases r with
  | ok d => exact fun v G' H' s' q => k v G' H' (s.trans s') q
  | exc n x => exact fun cls d G' H' s' q => k cls d G' H' (s.trans s') q
  | bad => exact k
theorem FPost.ofR {σ : L2.St} {G H G1 H1 : Hp} {Q : VK} {r : R PyData} (s : Stp G H G1 H1) (k : EPost c rlE W σ G H Q r.lf) : FPost c H1 H1 Q (WE W σ) r := by
  cases r with
  | ok d =>
    have k : EPost c rlE W σ G H Q (if Sm.lf d = true then .ok d else .bad) := k
    split at k
    · next hl => exact fun v G' H' s' q => k v (tupV G1 H') H' (s.trans (Stp.tups s.s s'.h)) (Rp.lf s'.s q hl)
    · exact k.elim
  | exc n x =>
    have k : EPost c rlE W σ G H Q (if Sm.lf x = true then .exc n x else .bad) := k
    split at k
    · next hl =>
      intro cls d G' H' s' q
      obtain ⟨dd, v, q1, q2, q3, q4⟩ := q
      exact k cls d (tupV G1 H') H' (s.trans (Stp.tups s.s s'.h)) ⟨dd, v, q1, q2, q3, Rp.lf s'.s q4 hl⟩
    · exact k.elim
  | bad => exact k
theorem sim_call {pf : List SV → R PyData} {ta : TA} {pa : List SV → R (List SV)} (h : SimA c false ta pa W) : Sim c rlE (tCallS (spF c pf) (WE W) ta) (pCall pf pa) W := fun Ge He ρ σ G H r Q k => by
  refine h _ _ _ _ _ _ r _ ?_
  unfold pCall at k
  cases e : pa ρ with
  | ok as =>
    rw [e] at k
    have k : EPost c rlE W σ G H Q (pf as) := k
    exact fun vs G1 H1 s1 q1 => ⟨G1, as, s1.s, q1, FPost.of s1 k⟩
  | exc n x => rw [e] at k; exact k
  | bad => rw [e] at k; exact k
theorem sim_callR {pf : List SV → R PyData} {ta : TA} {pa : List SV → R (List SV)} (h : SimA c true ta pa W) : Sim c rlE (tCallS (spF c pf) (WE W) ta) (pCallR pf pa) W := fun Ge He ρ σ G H r Q k => by
  refine h _ _ _ _ _ _ r _ ?_
  unfold pCallR at k
  cases e : pa ρ with
  | ok as =>
    rw [e] at k
    have k : EPost c rlE W σ G H Q (pf as).lf := k
    exact fun vs G1 H1 s1 q1 => ⟨H1, as, Same.refl _, q1, FPost.ofR s1 k⟩
  | exc n x => rw [e] at k; exact k
  | bad => rw [e] at k; exact k
/-- o.m(..) where what is raised is wished for at the caller's slots -/
def tMethS (C : Addr) (m : Str) (sp : Sp) (W : WX) (ta : TE) (t : TA) : TE := fun σ H Q => ta σ H fun x H1 => ∃ a dx fs, x = .ref a ∧ H1 a = some (.ins C dx fs) ∧ fs.lookup m = none ∧ t σ H1 fun vs H2 => sp (x :: vs) H2 Q (WE W σ)
theorem lookup_zip {m : Str} : ∀ {l : List Str} {vs : List V}, l.contains m = false → (l.zip vs).lookup m = none
  | [], _, _ => rfl
  | _ :: _, [], _ => rfl
  | n :: l, v :: vs, h => by
    rw [List.contains_cons, Bool.or_eq_false_iff] at h
    show List.lookup m ((n, v) :: l.zip vs) = none
    rw [List.lookup, h.1]
    exact lookup_zip h.2
theorem sim_meth {m : Str} {pf : List SV → R PyData} {to : TE} {ta : TA} {po : List SV → R (List PyData)} {pa : List SV → R (List SV)} (hm : nmB.contains m = false) (ho : Sim c (rlO c) to po W) (h : SimA c false ta pa W) :
    Sim c rlE (tMethS c.C m (spF c pf) W to ta) (pMeth pf po pa) W := fun Ge He ρ σ G H r Q k => by
  refine ho _ _ _ _ _ _ r _ ?_
  refine EPost.bind (rl' := rlE) (k := fun fs => (pa ρ).bind fun as => pf (.ins fs :: as)) k fun fs e0 k1 v G1 H1 s1 q1 => ?_
  have q1' : InsRep c G1 v fs := q1
  obtain ⟨a, dx, vs0, rfl, q2, q3, q4⟩ := id q1'
  refine ⟨a, dx, _, rfl, s1.s _ _ q2, lookup_zip hm, ?_⟩
  refine h _ _ _ _ _ _ (r.mono s1) _ ?_
  have k1 := EPost.step s1 k1
  cases e : pa ρ with
  | ok as =>
    rw [e] at k1
    have k1 : EPost c rlE W σ G1 H1 Q (pf (.ins fs :: as)) := k1
    exact fun vs G2 H2 s2 q5 => ⟨G2, .ins fs :: as, s2.s, .cons (show ArgRep c G2 _ (.ins fs) from InsRep.mono s2.g q1') q5, FPost.of s2 k1⟩
  | exc n x => rw [e] at k1; exact k1
  | bad => rw [e] at k1; exact k1
theorem sim_methR {m : Str} {pf : List SV → R PyData} {to : TE} {ta : TA} {po : List SV → R (List PyData)} {pa : List SV → R (List SV)} (hm : nmB.contains m = false) (ho : Sim c (rlO c) to po W) (h : SimA c true ta pa W) :
    Sim c rlE (tMethS c.C m (spF c pf) W to ta) (pMethR pf po pa) W := fun Ge He ρ σ G H r Q k => by
  refine ho _ _ _ _ _ _ r _ ?_
  refine EPost.bind (rl' := rlE) (k := fun fs => (pa ρ).bind fun as => (pf (.ins fs :: as)).lf) k fun fs e0 k1 v G1 H1 s1 q1 => ?_
  have q1' : InsRep c G1 v fs := q1
  obtain ⟨a, dx, vs0, rfl, q2, q3, q4⟩ := id q1'
  refine ⟨a, dx, _, rfl, s1.s _ _ q2, lookup_zip hm, ?_⟩
  refine h _ _ _ _ _ _ (r.mono s1) _ ?_
  have k1 := EPost.step s1 k1
  cases e : pa ρ with
  | ok as =>
    rw [e] at k1
    have k1 : EPost c rlE W σ G1 H1 Q (pf (.ins fs :: as)).lf := k1
    exact fun vs G2 H2 s2 q5 => ⟨H2, .ins fs :: as, Same.refl _, .cons (show ArgRep c H2 _ (.ins fs) from InsRep.mono (s2.g.trans s2.s) q1') q5, FPost.ofR s2 k1⟩
  | exc n x => rw [e] at k1; exact k1
  | bad => rw [e] at k1; exact k1
/-- a field -/
def pFld (j : Nat) (po : List SV → R (List PyData)) : List SV → R PyData := p1 (fun fs => fs[j]?) po
theorem sim_fld {K : PySem.W.Frag} {f : Str} {j : Nat} {to : TE} {po : List SV → R (List PyData)} (CL : Cls K c.C) (na : NoAttr K c.C f) (hf : ∀ vs : List V, vs.length = nmB.length → (nmB.zip vs).lookup f = vs[j]?) (ho : Sim c (rlO c) to po W) : Sim c rlE (tFld K to f) (pFld j po) W := fun Ge He ρ σ G H r Q k => by
  refine ho _ _ _ _ _ _ r _ ?_
  refine EPost.bind (rl' := rlE) (k := fun fs => R.of (fs[j]?)) k fun fs e0 k1 v G1 H1 s1 q1 => ?_
  obtain ⟨a, dx, vs0, rfl, q2, q3, q4⟩ := (show InsRep c G1 v fs from q1)
  cases e : fs[j]? with
  | none => rw [e] at k1; exact k1.elim
  | some d =>
    rw [e] at k1
    obtain ⟨v, h1, h2⟩ := q4.get e
    refine ⟨a, _, dx, _, v, rfl, s1.s _ _ q2, CL, na, ?_, k1 v G1 H1 s1 h2⟩
    rw [hf vs0 q3]
    exact h1
theorem fld_lives : ∀ vs : List V, vs.length = nmB.length → (nmB.zip vs).lookup ("lives" : Str) = vs[0]? := fun vs h => by
  match vs, h with
  | [a, b], _ => simp [nmB, List.lookup]
theorem fld_many : ∀ vs : List V, vs.length = nmB.length → (nmB.zip vs).lookup ("many" : Str) = vs[1]? := fun vs h => by
  match vs, h with
  | [a, b], _ =>
    have : (("many" : Str) == "lives") = false := by decide
    simp [nmB, List.lookup, this]
end

/-! ### making an object -/
def hide (H : Hp) (x : Addr) : Hp := fun b => if b = x then none else H b
theorem hide_same {H : Hp} {x : Addr} : hide H x x = none := if_pos rfl
theorem hide_ne {H : Hp} {x b : Addr} (h : b ≠ x) : hide H x b = H b := if_neg h
theorem hide_sub (H : Hp) (x : Addr) : Same (hide H x) H := fun b o e => by
  by_cases h : b = x
  · subst h; rw [hide_same] at e; cases e
  · rw [hide_ne h] at e; exact e
def IPost (c : Cf) (x : Addr) (G H : Hp) (Q : VK) (E : XK) : R (List PyData) → Prop
  | .ok fs => ∀ vs dx G' H', Stp G (hide H x) G' H' → G' x = none → H' x = some (.ins c.C dx (nmB.zip vs)) → vs.length = nmB.length → RpAll G' vs fs → Q .non H'
  | .exc n y => ∀ cls d G' H', Stp G (hide H x) G' H' → XRep c n y cls d G' H' → E cls d H'
  | .bad => False
def spI (c : Cf) (pf : List SV → R (List PyData)) : Sp := fun vs H Q E => ∃ x dx ws G as, vs = .ref x :: ws ∧ H x = some (.ins c.C dx []) ∧ G x = none ∧ Same G H ∧ Paired (ArgRep c G) ws as ∧ IPost c x G H Q E (pf as)
end Sm

set_option Elab.async false
set_option linter.all false
set_option maxRecDepth 100000
set_option maxHeartbeats 2000000
/-! Sm4: statements, loops, comprehensions. -/
namespace Sm
open PySem PySem.Spec L2

/-! ### statements -/
def eFl (r : R PyData) (ρ : List SV) (k : PyData → Fl) : Fl := match r with
  | .ok d => k d
  | .exc n x => .xc n x ρ
  | .bad => .bad
def bFl {α : Type} (r : R α) (ρ : List SV) (k : α → Fl) : Fl := match r with
  | .ok d => k d
  | .exc n x => .xc n x ρ
  | .bad => .bad
def qNext : List SV → Fl := .nx
def qSeq (p q : List SV → Fl) : List SV → Fl := fun ρ => match p ρ with
  | .nx ρ' => q ρ'
  | o => o
def qIf (pc : List SV → R Bool) (p q : List SV → Fl) : List SV → Fl := fun ρ => bFl (pc ρ) ρ fun b => if b = true then p ρ else q ρ
def qRet (pe : List SV → R PyData) : List SV → Fl := fun ρ => bFl (pe ρ) ρ .rt
def qRetN : List SV → Fl := fun _ => .rt .none
def qDrop {α : Type} (pe : List SV → R α) : List SV → Fl := fun ρ => bFl (pe ρ) ρ fun _ => .nx ρ
def qSet (i : Nat) (pe : List SV → R PyData) : List SV → Fl := fun ρ => bFl (pe ρ) ρ fun d => .nx (ρ.set i (.d d))
def qSetN (i : Nat) (pe : List SV → R (List PyData)) : List SV → Fl := fun ρ => bFl (pe ρ) ρ fun d => .nx (ρ.set i (.own d))
def qSetO (i : Nat) (pe : List SV → R (List PyData)) : List SV → Fl := fun ρ => bFl (pe ρ) ρ fun d => .nx (ρ.set i (.ins d))
def qFrz (i : Nat) (q : List SV → Fl) : List SV → Fl := fun ρ => match ρ[i]? with
  | some (.own xs) => q (ρ.set i (.d (.list xs)))
  | _ => .bad
def qApp (i : Nat) (pe : List SV → R PyData) : List SV → Fl := fun ρ => match ρ[i]? with
  | some (.own xs) => bFl (pe ρ) ρ fun d => if decide (xs.length < 1000000) = true then .nx (ρ.set i (.own (xs ++ [d]))) else .bad
  | _ => .bad
def qStore (i : Nat) (pe pj : List SV → R PyData) : List SV → Fl := fun ρ => match ρ[i]? with
  | some (.own xs) => bFl (pe ρ) ρ fun d => bFl (pj ρ) ρ fun j => match j with
    | .int k => match ixN xs.length k with
      | some n => .nx (ρ.set i (.own (xs.set n d)))
      | none => .bad
    | _ => .bad
  | _ => .bad
def qAdd (i : Nat) (pe : List SV → R PyData) : List SV → Fl := fun ρ => match ρ[i]? with
  | some (.d (.int a)) => bFl (pe ρ) ρ fun d => match d with
    | .int b => .nx (ρ.set i (.d (.int (a + b))))
    | _ => .bad
  | _ => .bad
def qBrk : List SV → Fl := .bk
def qCont : List SV → Fl := .ct
/-- self.f = e, f the next of the names -/
def qOfld (i j : Nat) (pe : List SV → R PyData) : List SV → Fl := fun ρ => match ρ[i]? with
  | some (.oins a fs) => bFl (pe ρ) ρ fun d => if fs.length = j then .nx (ρ.set i (.oins a (fs ++ [d]))) else .bad
  | _ => .bad
/-- a, b, .. = e -/
def gsFold : List Nat → List PyData → List SV → Option (List SV)
  | [], [], ρ => some ρ
  | i :: is, x :: xs, ρ => gsFold is xs (ρ.set i (.d x))
  | _, _, _ => none
def gName1 (i : Nat) : PyData → List SV → Option (List SV) := fun d ρ => some (ρ.set i (.d d))
def gNames (is : List Nat) : PyData → List SV → Option (List SV) := fun d ρ => match d with
  | .list xs => gsFold is xs ρ
  | .tuple xs => gsFold is xs ρ
  | _ => none
def qTgt (g : PyData → List SV → Option (List SV)) (pe : List SV → R PyData) : List SV → Fl := fun ρ => bFl (pe ρ) ρ fun d => match g d ρ with
  | some ρ' => .nx ρ'
  | none => .bad
/-- for -/
def forGo (g : PyData → List SV → Option (List SV)) (q : List SV → Fl) : List PyData → List SV → Fl
  | [], ρ => .nx ρ
  | x :: xs, ρ => match g x ρ with
    | none => .bad
    | some ρ1 => match q ρ1 with
      | .nx ρ2 => forGo g q xs ρ2
      | .ct ρ2 => forGo g q xs ρ2
      | .bk ρ2 => .nx ρ2
      | .rt d => .rt d
      | .xc n x ρ' => .xc n x ρ'
      | .bad => .bad
def qFor (pi : List SV → R (List PyData)) (g : PyData → List SV → Option (List SV)) (q : List SV → Fl) : List SV → Fl := fun ρ => bFl (pi ρ) ρ fun xs => forGo g q xs ρ
def whGo (pc : List SV → R Bool) (q : List SV → Fl) : Nat → List SV → Fl
  | 0, _ => .bad
  | n + 1, ρ => bFl (pc ρ) ρ fun b => if b = true then (match q ρ with
      | .nx ρ2 => whGo pc q n ρ2
      | .ct ρ2 => whGo pc q n ρ2
      | .bk ρ2 => .nx ρ2
      | .rt d => .rt d
      | .xc n x ρ' => .xc n x ρ'
      | .bad => .bad) else .nx ρ
def qWhile (n : Nat) (pc : List SV → R Bool) (q : List SV → Fl) : List SV → Fl := whGo pc q n
/-- what a for walks -/
def iSq (pe : List SV → R PyData) : List SV → R (List PyData) := fun ρ => (pe ρ).bind fun d => (sqOf d).bind fun x => .ok x.2
def enumD : Nat → List PyData → List PyData
  | _, [] => []
  | n, x :: r => .tuple [.int (n : Int), x] :: enumD (n + 1) r
def iEn (pe : List SV → R PyData) : List SV → R (List PyData) := fun ρ => (iSq pe ρ).bind fun xs => .ok (enumD 0 xs)
def rngD (lo : Int) (n : Nat) : List PyData := (List.range n).map fun (i : Nat) => PyData.int (lo + (i : Int))
def rngOk (i : Int) : Bool := decide (-1000000000 ≤ i ∧ i ≤ 1000000000)
def iRg1 (pe : List SV → R PyData) : List SV → R (List PyData) := fun ρ => (pe ρ).bind fun d => match d with
  | .int j => if rngOk j = true then .ok (rngD 0 j.toNat) else .bad
  | _ => .bad
def iRg2 (pa pb : List SV → R PyData) : List SV → R (List PyData) := fun ρ => (pa ρ).bind fun a => (pb ρ).bind fun b => match a, b with
  | .int i, .int j => if (rngOk i && rngOk j) = true then .ok (rngD i (j - i).toNat) else .bad
  | _, _ => .bad
/-- a comprehension -/
def wipeR (ρ : List SV) : List Nat → List SV
  | [] => ρ
  | v :: vs => (wipeR ρ vs).set v .un
def lcGo (g : PyData → List SV → Option (List SV)) (pt : List SV → R Bool) (pe : List SV → R PyData) (ρ : List SV) : List PyData → R (List PyData)
  | [] => .ok []
  | x :: xs => match g x ρ with
    | none => .bad
    | some ρ1 => match pt ρ1 with
      | .ok true => match pe ρ1 with
        | .ok y => (lcGo g pt pe ρ xs).bind fun ys => .ok (y :: ys)
        | _ => .bad
      | .ok false => lcGo g pt pe ρ xs
      | _ => .bad
def pLc (pi : List SV → R (List PyData)) (g : PyData → List SV → Option (List SV)) (pt : List SV → R Bool) (pe : List SV → R PyData) (vs : List Nat) : List SV → R (List PyData) := fun ρ =>
  (pi ρ).bind fun xs => if decide (xs.length < 1000000) = true then lcGo g pt pe (wipeR ρ vs) xs else .bad

section
variable {c : Cf} {W : WX}
theorem Post.e {Ge He : Hp} {D : Ends} {σ : L2.St} {G H G' H' : Hp} {ρ : List SV} {n : Nat} {x : PyData} {cls : Value} {d : Option Addr} (r : Rep c Ge He ρ σ G H) (k : Post c Ge He D W (.xc n x ρ)) (s : Stp G H G' H') (q : XRep c n x cls d G' H') : W cls d σ H' := k cls d σ G' H' (r.mono s) q
theorem eval_s {α : Type} {rl : Rl α} {te : TE} {pe : List SV → R α} {Ge He : Hp} {D : Ends} {σ : L2.St} {G H : Hp} {ρ : List SV} {Q : VK} {f : α → Fl} (h : Sim c rl te pe W) (r : Rep c Ge He ρ σ G H) (k : Post c Ge He D W (bFl (pe ρ) ρ f))
    (hk : ∀ a, Post c Ge He D W (f a) → ∀ v G' H', Stp G H G' H' → rl G' H' v a → Q v H') : te σ H Q := by
  refine h _ _ _ _ _ _ r _ ?_
  cases e : pe ρ with
  | ok a => rw [e] at k; exact hk a k
  | exc n x => rw [e] at k; exact fun cls d G' H' s q => Post.e r k s q
  | bad => rw [e] at k; exact k
theorem eval_n {te : TE} {pe : List SV → R (List PyData)} {Ge He : Hp} {D : Ends} {σ : L2.St} {G H : Hp} {ρ : List SV} {Q : VK} {f : List PyData → Fl} (h : SimN c te pe W) (r : Rep c Ge He ρ σ G H) (k : Post c Ge He D W (bFl (pe ρ) ρ f))
    (hk : ∀ a, Post c Ge He D W (f a) → ∀ p vs G' H', H p = none → Stp G H G' H' → G' p = none → H' p = some (.lst vs) → RpAll G' vs a → Q (.ref p) H') : te σ H Q := by
  refine h _ _ _ _ _ _ r _ ?_
  cases e : pe ρ with
  | ok a => rw [e] at k; exact hk a k
  | exc n x => rw [e] at k; exact fun cls d G' H' s q => Post.e r k s q
  | bad => rw [e] at k; exact k
theorem ss_nil : SimS c tNext qNext W := fun Ge He ρ σ G H D r k => k σ G H r
theorem ss_seq {t u : TS} {p q : List SV → Fl} (h : SimS c t p W) (h2 : SimS c u q W) : SimS c (tSeq t u) (qSeq p q) W := fun Ge He ρ σ G H D r k => by
  refine h _ _ _ _ _ _ { D with nx := u D } r ?_
  unfold qSeq at k
  cases e : p ρ with
  | nx ρ' => rw [e] at k; exact fun σ' G' H' r' => h2 _ _ _ _ _ _ D r' k
  | rt d => rw [e] at k; exact k
  | bk ρ' => rw [e] at k; exact k
  | ct ρ' => rw [e] at k; exact k
  | xc n x ρ' => rw [e] at k; exact k
  | bad => rw [e] at k; exact k
theorem ss_if {tc : TT} {t u : TS} {pc : List SV → R Bool} {p q : List SV → Fl} (hc : SimT c tc pc W) (h : SimS c t p W) (h2 : SimS c u q W) : SimS c (tIfS tc t u) (qIf pc p q) W := fun Ge He ρ σ G H D r k => by
  refine hc _ _ _ _ _ _ r _ ?_
  unfold qIf at k
  cases e : pc ρ with
  | ok b =>
    rw [e] at k
    intro G' H' s
    cases b with
    | true =>
      show t D σ H'
      exact h _ _ _ _ _ _ D (r.mono s) k
    | false =>
      show u D σ H'
      exact h2 _ _ _ _ _ _ D (r.mono s) k
  | exc n x => rw [e] at k; exact fun cls d G' H' s q => Post.e r k s q
  | bad => rw [e] at k; exact k
theorem ss_ret {te : TE} {pe : List SV → R PyData} (h : Sim c rlE te pe W) : SimS c (tRet te) (qRet pe) W := fun Ge He ρ σ G H D r k =>
  eval_s h r k fun a k v G' H' s q => k v G' H' (r.mono s).st q
theorem ss_retN : SimS c tRetN qRetN W := fun Ge He ρ σ G H D r k => k .non G H r.st .non
theorem ss_drop {α : Type} {rl : Rl α} {te : TE} {pe : List SV → R α} (h : Sim c rl te pe W) : SimS c (tDrop te) (qDrop pe) W := fun Ge He ρ σ G H D r k =>
  eval_s (Q := fun _ H1 => D.nx σ H1) h r k fun a k v G' H' s q => k σ G' H' (r.mono s)
theorem ss_set (i : Nat) {te : TE} {pe : List SV → R PyData} (h : Sim c rlE te pe W) : SimS c (tAsg te (gName i)) (qSet i pe) W := fun Ge He ρ σ G H D r k =>
  eval_s (Q := fun x H1 => gName i x σ H1 D.nx) h r k fun a k v G' H' s q => k _ G' H' ((r.mono s).set rfl rfl ⟨v, rfl, q⟩)
theorem ss_setN (i : Nat) {te : TE} {pe : List SV → R (List PyData)} (h : SimN c te pe W) : SimS c (tAsg te (gName i)) (qSetN i pe) W := fun Ge He ρ σ G H D r k =>
  eval_n (Q := fun x H1 => gName i x σ H1 D.nx) h r k fun a k p vs G' H' hp s gp h1 h2 => k _ G' H' (r.setNew hp s gp h1 h2)
theorem ss_setO (i : Nat) {te : TE} {pe : List SV → R (List PyData)} (h : Sim c (rlO c) te pe W) : SimS c (tAsg te (gName i)) (qSetO i pe) W := fun Ge He ρ σ G H D r k =>
  eval_s (Q := fun x H1 => gName i x σ H1 D.nx) h r k fun a k v G' H' s q => k _ G' H' ((r.mono s).set rfl rfl ⟨v, rfl, q⟩)
theorem ss_frz (i : Nat) {t : TS} {q : List SV → Fl} (h : SimS c t q W) : SimS c t (qFrz i q) W := fun Ge He ρ σ G H D r k => by
  unfold qFrz at k
  split at k
  · next xs e =>
    obtain ⟨G', r'⟩ := r.freeze e
    exact h _ _ _ _ _ _ D r' k
  · exact k.elim
theorem ss_app (i : Nat) {K : PySem.W.Frag} {te : TE} {pe : List SV → R PyData} (h : Sim c rlE te pe W) : SimS c (tDrop (tBM K "list" rAppend (tVar i) (tCons te tNil))) (qApp i pe) W := fun Ge He ρ σ G H D r k => by
  unfold qApp at k
  split at k
  · next xs e =>
    obtain ⟨p, vs, h1, h2, h3, h4, h5⟩ := r.own e
    refine ⟨.ref p, h1, .inl ⟨rfl, vs, SqL.of h4⟩, ?_⟩
    refine eval_s (Q := fun y H2 => rAppend (.ref p) [y] H2 fun _ H3 => D.nx σ H3) h r k fun a k v G' H' s q => ?_
    split at k
    · next hl =>
      have hl := of_decide_eq_true hl
      have r' := r.mono s
      refine ⟨p, vs, v, rfl, rfl, s.h _ _ h4, by rw [h5.length, PySem.sizeLine_eq]; omega, ?_⟩
      have gp := s.k p _ h4 rfl h3
      exact k σ G' _ (r'.write ⟨⟨_, e, rfl⟩, h1⟩ ⟨p, _, rfl, h2, gp, upd_same, (h5.mono s.g).append (.cons q .nil)⟩ rfl)
    · exact k.elim
  · exact k.elim
theorem ixN_lt {n j : Nat} {k : Int} (h : ixN n k = some j) : j < n := by
  unfold ixN at h
  split at h
  · split at h
    · cases h; omega
    · cases h
  · split at h
    · cases h; omega
    · cases h
theorem ss_store (i : Nat) {te tj : TE} {pe pj : List SV → R PyData} (h : Sim c rlE te pe W) (hj : Sim c rlE tj pj W) : SimS c (tAsg te (gSub (tVar i) tj rSetL)) (qStore i pe pj) W := fun Ge He ρ σ G H D r k => by
  unfold qStore at k
  split at k
  · next xs e =>
    obtain ⟨p, vs, h1, h2, h3, h4, h5⟩ := r.own e
    refine eval_s (Q := fun y H2 => gSub (tVar i) tj rSetL y σ H2 D.nx) h r k fun a k v G1 H1 s1 q1 => ?_
    have r1 := r.mono s1
    refine ⟨.ref p, h1, ?_⟩
    refine eval_s (Q := fun y H2 => rSetL (.ref p) y v H2 fun H3 => D.nx σ H3) hj r1 k fun b k w G2 H2 s2 q2 => ?_
    cases b with
    | int z =>
      have := Rp.ofInt q2
      subst this
      have k : Post c Ge He D W (match ixN xs.length z with
        | some n => .nx (ρ.set i (.own (xs.set n a)))
        | none => .bad) := k
      split at k
      · next n en =>
        have st := s1.trans s2
        have r2 := r1.mono s2
        have gp := st.k p _ h4 rfl h3
        refine ⟨p, vs, z, n, rfl, rfl, st.h _ _ h4, by rw [h5.length]; exact en, ?_⟩
        exact k σ G2 _ (r2.write ⟨⟨_, e, rfl⟩, h1⟩ ⟨p, _, rfl, h2, gp, upd_same, RpAll.set (Rp.mono s2.g q1) n (h5.mono st.g)⟩ rfl)
      · exact k.elim
    | _ => exact k.elim
  · exact k.elim
theorem ss_add (i : Nat) {te : TE} {pe : List SV → R PyData} (h : Sim c rlE te pe W) : SimS c (tAug i te (ipI fun i j => i + j)) (qAdd i pe) W := fun Ge He ρ σ G H D r k => by
  unfold qAdd at k
  split at k
  · next z e =>
    obtain ⟨v, h1, h2⟩ := r.d e
    have := Rp.ofInt h2
    subst this
    refine ⟨_, h1, ?_⟩
    refine eval_s (Q := fun y H1 => ipI (fun i j => i + j) (.int z) y H1 fun z H2 => D.nx (σ.set i (some z)) H2) h r k fun a k v G' H' s q => ?_
    cases a with
    | int b =>
      have := Rp.ofInt q
      subst this
      exact ⟨z, b, rfl, rfl, k _ G' H' ((r.mono s).set rfl rfl ⟨_, rfl, .int _⟩)⟩
    | _ => exact k.elim
  · exact k.elim
theorem ss_brk : SimS c tBreak qBrk W := fun Ge He ρ σ G H D r k => k σ G H r
theorem ss_cont : SimS c tCont qCont W := fun Ge He ρ σ G H D r k => k σ G H r
theorem putF_zip : ∀ {vs : List V} {f : Str} {y : V}, vs.length < nmB.length → nmB[vs.length]? = some f → putF f y (nmB.zip vs) = nmB.zip (vs ++ [y])
  | [], f, y, _, e => by
    have : f = "lives" := by simpa [nmB] using e.symm
    subst this
    rfl
  | [a], f, y, _, e => by
    have : f = "many" := by simpa [nmB] using e.symm
    subst this
    have ne : ¬ (("lives" : Str) = "many") := by decide
    show (if (("lives" : Str) = "many") then _ else _) = _
    rw [if_neg ne]
    rfl
  | _ :: _ :: _, f, y, h, _ => by simp [nmB] at h; omega
theorem ss_ofld (i j : Nat) {K : PySem.W.Frag} {f : Str} {te : TE} {pe : List SV → R PyData} (CL : Cls K c.C) (na : NoAttr K c.C f) (hf : nmB[j]? = some f) (hlt : j < nmB.length) (h : Sim c rlE te pe W) : SimS c (sFld K (tVar i) te f) (qOfld i j pe) W := fun Ge He ρ σ G H D r k => by
  unfold qOfld at k
  split at k
  · next a fs e =>
    obtain ⟨dx, vs, h1, h2, h3, h4, h5, h6⟩ := r.oins e
    refine eval_s (Q := fun y H1 => tVar i σ H1 fun x H2 => ∃ a C dx fs, x = .ref a ∧ H2 a = some (.ins C dx fs) ∧ Cls K C ∧ NoAttr K C f ∧ fs.length < 1000 ∧ D.nx σ (upd H2 a (.ins C dx (putF f y fs)))) h r k fun d k v G' H' s q => ?_
    split at k
    · next hl =>
      have r' := r.mono s
      have gp := s.k a _ h4 rfl h3
      have hv : vs.length = j := by rw [h6.length]; exact hl
      refine ⟨.ref a, h1, a, c.C, dx, _, rfl, s.h _ _ h4, CL, na, ?_, ?_⟩
      · rw [List.length_zip]
        have : nmB.length = 2 := rfl
        omega
      · rw [putF_zip (by omega) (by rw [hv]; exact hf)]
        refine k σ G' _ (r'.write ⟨⟨_, e, rfl⟩, h1⟩ ⟨dx, vs ++ [v], rfl, h2, gp, upd_same, ?_, (h6.mono s.g).append (.cons q .nil)⟩ rfl)
        rw [List.length_append, hv]
        exact hlt
    · exact k.elim
  · exact k.elim

/-! ### targets -/
def SimG (c : Cf) (g : TG) (pg : PyData → List SV → Option (List SV)) (ts : List Nat) : Prop := ∀ Ge He ρ σ G H v d ρ', Rep c Ge He ρ σ G H → Rp G v d → pg d ρ = some ρ' →
  ∀ Q : L2.St → Hp → Prop, (∀ σ', Rep c Ge He ρ' σ' G H → (∀ j, j ∉ ts → σ'[j]? = σ[j]?) → σ'.length = σ.length → Q σ' H) → g v σ H Q
theorem sg_name (i : Nat) : SimG c (gName i) (gName1 i) [i] := fun Ge He ρ σ G H v d ρ' r q e Q k => by
  cases e
  exact k _ (r.set rfl rfl ⟨v, rfl, q⟩) (fun j hj => List.getElem?_set_ne (fun e => hj (by rw [e]; exact List.mem_cons_self))) (List.length_set ..)
/-- a tuple or a list is taken apart -/
def gSeq (K : PySem.W.Frag) (n : Nat) (t : TGs) : TG := fun v σ H Q => gTup K n t v σ H Q ∨ gLst K n t v σ H Q
def gsOf : List Nat → TGs
  | [] => gNil
  | i :: is => gCons (gName i) (gsOf is)
theorem gs_run {Ge He G H : Hp} : ∀ {is : List Nat} {xs : List PyData} {vs : List V} {ρ ρ' : List SV} {σ : L2.St} {Q : L2.St → Hp → Prop}, Rep c Ge He ρ σ G H → RpAll G vs xs → gsFold is xs ρ = some ρ' →
    (∀ σ', Rep c Ge He ρ' σ' G H → (∀ j, j ∉ is → σ'[j]? = σ[j]?) → σ'.length = σ.length → Q σ' H) → gsOf is vs σ H Q
  | [], xs, vs, ρ, ρ', σ, Q, r, q, e, k => by
    cases q with
    | nil => cases e; exact ⟨rfl, k σ r (fun _ _ => rfl) rfl⟩
    | cons a b => cases e
  | i :: is, xs, vs, ρ, ρ', σ, Q, r, q, e, k => by
    cases q with
    | nil => cases e
    | @cons v vs d ds a b =>
      refine ⟨v, vs, rfl, ?_⟩
      show gsOf is vs (σ.set i (some v)) H Q
      refine gs_run (r.set (s := .d d) rfl rfl ⟨v, rfl, a⟩) b e fun σ' r' hs hl => k σ' r' (fun j hj => ?_) (by rw [hl, List.length_set])
      rw [hs j (fun h => hj (List.mem_cons_of_mem _ h)), List.getElem?_set_ne (fun e => hj (by rw [e]; exact List.mem_cons_self))]
theorem gsFold_len : ∀ {is : List Nat} {xs : List PyData} {ρ ρ' : List SV}, gsFold is xs ρ = some ρ' → xs.length = is.length
  | [], [], _, _, _ => rfl
  | _ :: is, _ :: xs, _, _, e => congrArg (· + 1) (gsFold_len (is := is) (xs := xs) e)
  | [], _ :: _, _, _, e => by cases e
  | _ :: _, [], _, _, e => by cases e
theorem sg_names (K : PySem.W.Frag) (is : List Nat) : SimG c (gSeq K is.length (gsOf is)) (gNames is) is := fun Ge He ρ σ G H v d ρ' r q e Q k => by
  cases q with
  | lst h1 h2 => exact .inr ⟨_, _, rfl, SqL.of (r.st.s _ _ h1), by rw [h2.length]; exact gsFold_len (show gsFold is _ ρ = some ρ' from e), gs_run r h2 e k⟩
  | tup h1 h2 => exact .inl ⟨_, _, rfl, SqT.of (r.st.s _ _ h1), by rw [h2.length]; exact gsFold_len (show gsFold is _ ρ = some ρ' from e), gs_run r h2 e k⟩
  | _ => cases e
theorem ss_tgt {g : TG} {pg : PyData → List SV → Option (List SV)} {ts : List Nat} {te : TE} {pe : List SV → R PyData} (hg : SimG c g pg ts) (h : Sim c rlE te pe W) : SimS c (tAsg te g) (qTgt pg pe) W := fun Ge He ρ σ G H D r k =>
  eval_s (Q := fun x H1 => g x σ H1 D.nx) h r k fun a k v G' H' s q => by
    split at k
    · next ρ' e => exact hg _ _ _ _ _ _ _ _ _ (r.mono s) q e _ fun σ' r' _ _ => k σ' G' H' r'
    · exact k.elim

/-! ### what is walked -/
def ItRep (J : It) (xs : List PyData) (G : Hp) : Prop :=
  (∀ (i : Nat) G2 H2, Same G G2 → Same G2 H2 → i < xs.length → J.go i H2 ∧ ∀ x H3, J.yld i H2 x H3 → ∃ G3 d, Stp G2 H2 G3 H3 ∧ xs[i]? = some d ∧ Rp G3 x d) ∧ ∀ (i : Nat) G2 H2, Same G G2 → Same G2 H2 → xs.length ≤ i → J.stop i H2
def IPst (c : Cf) (W : WX) (σ : L2.St) (G H : Hp) (Rr : It → Hp → Prop) : R (List PyData) → Prop
  | .ok xs => ∀ J G' H', Stp G H G' H' → ItRep J xs G' → Rr J H'
  | .exc n x => ∀ cls d G' H', Stp G H G' H' → XRep c n x cls d G' H' → W cls d σ H'
  | .bad => False
def SimI (c : Cf) (wi : TI) (pi : List SV → R (List PyData)) (W : WX) : Prop := ∀ Ge He ρ σ G H, Rep c Ge He ρ σ G H → ∀ Rr : It → Hp → Prop, IPst c W σ G H Rr (pi ρ) → wi σ H Rr
def iSeqT (K : PySem.W.Frag) (tl : TE) : TI := fun σ H R => tl σ H fun x H1 => ∃ a, x = .ref a ∧ (((∃ xs, SqL K H1 a xs) ∧ R (Itl K a) H1) ∨ ((∃ xs, SqT K H1 a xs) ∧ R (Itt K a) H1))
theorem it_list {K : PySem.W.Frag} {G : Hp} {a : Addr} {vs : List V} {xs : List PyData} (h : G a = some (.lst vs)) (q : RpAll G vs xs) : ItRep (Itl K a) xs G := by
  refine ⟨fun i G2 H2 s s2 hi => ⟨⟨vs, ?_⟩, ?_⟩, fun i G2 H2 s s2 hi => ⟨vs, SqL.of (s2 _ _ (s _ _ h)), by rw [q.length]; exact hi⟩⟩
  · obtain ⟨v, e, _⟩ := q.get (List.getElem?_eq_getElem hi)
    exact ⟨v, SqL.of (s2 _ _ (s _ _ h)), e⟩
  · rintro x H3 ⟨rfl, y⟩
    obtain ⟨v, e, e2⟩ := q.get (List.getElem?_eq_getElem hi)
    have := y vs (SqL.of (s2 _ _ (s _ _ h)))
    rw [e] at this
    cases this
    exact ⟨G2, xs[i], Stp.refl s2, List.getElem?_eq_getElem hi, e2.mono s⟩
theorem it_tup {K : PySem.W.Frag} {G : Hp} {a : Addr} {vs : List V} {xs : List PyData} (h : G a = some (.tup vs)) (q : RpAll G vs xs) : ItRep (Itt K a) xs G := by
  refine ⟨fun i G2 H2 s s2 hi => ⟨⟨vs, ?_⟩, ?_⟩, fun i G2 H2 s s2 hi => ⟨vs, SqT.of (s2 _ _ (s _ _ h)), by rw [q.length]; exact hi⟩⟩
  · obtain ⟨v, e, _⟩ := q.get (List.getElem?_eq_getElem hi)
    exact ⟨v, SqT.of (s2 _ _ (s _ _ h)), e⟩
  · rintro x H3 ⟨rfl, y⟩
    obtain ⟨v, e, e2⟩ := q.get (List.getElem?_eq_getElem hi)
    have := y vs (SqT.of (s2 _ _ (s _ _ h)))
    rw [e] at this
    cases this
    exact ⟨G2, xs[i], Stp.refl s2, List.getElem?_eq_getElem hi, e2.mono s⟩
theorem rngD_get {lo : Int} {n i : Nat} (h : i < n) : (rngD lo n)[i]? = some (.int (lo + (i : Int))) := by
  unfold rngD
  rw [List.getElem?_map, List.getElem?_range h]
  rfl
theorem rngD_len {lo : Int} {n : Nat} : (rngD lo n).length = n := by
  unfold rngD
  rw [List.length_map, List.length_range]
theorem it_rng {lo : Int} {n : Nat} {G : Hp} : ItRep (Itr lo n) (rngD lo n) G := by
  refine ⟨fun i G2 H2 s s2 hi => ?_, fun i G2 H2 s s2 hi => by rw [rngD_len] at hi; exact hi⟩
  rw [rngD_len] at hi
  refine ⟨hi, ?_⟩
  rintro x H3 ⟨rfl, rfl⟩
  exact ⟨G2, _, Stp.refl s2, rngD_get hi, .int _⟩
theorem enumD_get : ∀ {xs : List PyData} {n i : Nat} {x : PyData}, xs[i]? = some x → (enumD n xs)[i]? = some (.tuple [.int ((n + i : Nat) : Int), x])
  | [], _, _, _, h => by simp at h
  | a :: r, n, 0, x, h => by
    simp at h
    subst h
    rfl
  | a :: r, n, i + 1, x, h => by
    have h' : r[i]? = some x := by simpa using h
    have := enumD_get (n := n + 1) h'
    show (enumD (n + 1) r)[i]? = _
    rw [this]
    have : n + 1 + i = n + (i + 1) := by omega
    rw [this]
theorem enumD_len : ∀ {xs : List PyData} {n : Nat}, (enumD n xs).length = xs.length
  | [], _ => rfl
  | a :: r, n => congrArg (· + 1) (enumD_len (xs := r) (n := n + 1))
/-- the pairs of an enumeration as they are yielded -/
theorem en_yield {G2 H2 : Hp} {i : Nat} {x : V} {d : PyData} {T : Addr} {xs : List PyData} (s2 : Same G2 H2) (hT : H2 T = none) (e : xs[i]? = some d) (q : Rp G2 x d) :
    ∃ G3 d', Stp G2 H2 G3 (upd H2 T (.tup [.int (i : Nat), x])) ∧ (enumD 0 xs)[i]? = some d' ∧ Rp G3 (.ref T) d' := by
  have st := Stp.new (o := .tup [.int (i : Nat), x]) s2 hT
  refine ⟨_, _, st, enumD_get e, ?_⟩
  rw [Nat.zero_add]
  exact .tup upd_same (.cons (.int _) (.cons (q.mono st.g) .nil))
theorem it_enL {K : PySem.W.Frag} {G : Hp} {a : Addr} {vs : List V} {xs : List PyData} (h : G a = some (.lst vs)) (q : RpAll G vs xs) : ItRep (Ite K a) (enumD 0 xs) G := by
  refine ⟨fun i G2 H2 s s2 hi => ?_, fun i G2 H2 s s2 hi => ⟨vs, SqL.of (s2 _ _ (s _ _ h)), by rw [q.length]; rw [enumD_len] at hi; exact hi⟩⟩
  rw [enumD_len] at hi
  obtain ⟨v, e, e2⟩ := q.get (List.getElem?_eq_getElem hi)
  refine ⟨⟨vs, v, SqL.of (s2 _ _ (s _ _ h)), e⟩, ?_⟩
  rintro y H3 ⟨T, x, rfl, hT, rfl, k⟩
  have := k vs (SqL.of (s2 _ _ (s _ _ h)))
  rw [e] at this
  cases this
  exact en_yield s2 hT (List.getElem?_eq_getElem hi) (e2.mono s)
/-- enumerate(tuple) -/
def IteT (K : PySem.W.Frag) (a : Addr) : It :=
  ⟨fun i H => ∃ (xs : List V) (x : V), SqT K H a xs ∧ xs[i]? = some x, fun i H v H' => ∃ T x, v = .ref T ∧ H T = none ∧ H' = upd H T (.tup [.int (i : Nat), x]) ∧ ∀ xs, SqT K H a xs → xs[i]? = some x, fun i H => ∃ xs : List V, SqT K H a xs ∧ xs.length ≤ i⟩
theorem it_enT {K : PySem.W.Frag} {G : Hp} {a : Addr} {vs : List V} {xs : List PyData} (h : G a = some (.tup vs)) (q : RpAll G vs xs) : ItRep (IteT K a) (enumD 0 xs) G := by
  refine ⟨fun i G2 H2 s s2 hi => ?_, fun i G2 H2 s s2 hi => ⟨vs, SqT.of (s2 _ _ (s _ _ h)), by rw [q.length]; rw [enumD_len] at hi; exact hi⟩⟩
  rw [enumD_len] at hi
  obtain ⟨v, e, e2⟩ := q.get (List.getElem?_eq_getElem hi)
  refine ⟨⟨vs, v, SqT.of (s2 _ _ (s _ _ h)), e⟩, ?_⟩
  rintro y H3 ⟨T, x, rfl, hT, rfl, k⟩
  have := k vs (SqT.of (s2 _ _ (s _ _ h)))
  rw [e] at this
  cases this
  exact en_yield s2 hT (List.getElem?_eq_getElem hi) (e2.mono s)
def iEnT (K : PySem.W.Frag) (tl : TE) : TI := fun σ H R => tl σ H fun x H1 => ∃ a, x = .ref a ∧ (((∃ xs, SqL K H1 a xs) ∧ R (Ite K a) H1) ∨ ((∃ xs, SqT K H1 a xs) ∧ R (IteT K a) H1))
theorem si_go {α : Type} {rl : Rl α} {te : TE} {pe : List SV → R α} {Ge He : Hp} {σ : L2.St} {G H : Hp} {ρ : List SV} {Q : VK} {Rr : It → Hp → Prop} {f : α → R (List PyData)} (h : Sim c rl te pe W) (r : Rep c Ge He ρ σ G H) (k : IPst c W σ G H Rr ((pe ρ).bind f))
    (hk : ∀ a v G' H', Stp G H G' H' → rl G' H' v a → IPst c W σ G H Rr (f a) → Q v H') : te σ H Q := by
  refine h _ _ _ _ _ _ r _ ?_
  cases e : pe ρ with
  | ok a => rw [e] at k; exact fun v G' H' s q => hk a v G' H' s q k
  | exc n x => rw [e] at k; exact k
  | bad => rw [e] at k; exact k
theorem si_seq (K : PySem.W.Frag) {te : TE} {pe : List SV → R PyData} (h : Sim c rlE te pe W) : SimI c (iSeqT K te) (iSq pe) W := fun Ge He ρ σ G H r Rr k => by
  refine si_go (f := fun d => (sqOf d).bind fun x => .ok x.2) h r k fun a v G' H' s q k => ?_
  cases q with
  | lst h1 h2 => exact ⟨_, rfl, .inl ⟨⟨_, SqL.of (s.s _ _ h1)⟩, k _ _ _ s (it_list h1 h2)⟩⟩
  | tup h1 h2 => exact ⟨_, rfl, .inr ⟨⟨_, SqT.of (s.s _ _ h1)⟩, k _ _ _ s (it_tup h1 h2)⟩⟩
  | _ => exact k.elim
theorem si_en (K : PySem.W.Frag) {te : TE} {pe : List SV → R PyData} (h : Sim c rlE te pe W) : SimI c (iEnT K te) (iEn pe) W := fun Ge He ρ σ G H r Rr k => by
  have k' : IPst c W σ G H Rr ((pe ρ).bind fun d => (sqOf d).bind fun x => .ok (enumD 0 x.2)) := by
    unfold iEn iSq at k
    cases e : pe ρ with
    | ok a =>
      rw [e] at k
      cases a <;> exact k
    | exc n x => rw [e] at k; exact k
    | bad => rw [e] at k; exact k
  refine si_go (f := fun d => (sqOf d).bind fun x => .ok (enumD 0 x.2)) h r k' fun a v G' H' s q k => ?_
  cases q with
  | lst h1 h2 => exact ⟨_, rfl, .inl ⟨⟨_, SqL.of (s.s _ _ h1)⟩, k _ _ _ s (it_enL h1 h2)⟩⟩
  | tup h1 h2 => exact ⟨_, rfl, .inr ⟨⟨_, SqT.of (s.s _ _ h1)⟩, k _ _ _ s (it_enT h1 h2)⟩⟩
  | _ => exact k.elim
theorem rng_ok {i : Int} (h : rngOk i = true) : -(2 ^ 62) ≤ i ∧ i < 2 ^ 62 := by
  have := of_decide_eq_true h
  omega
theorem si_rg1 {te : TE} {pe : List SV → R PyData} (h : Sim c rlE te pe W) : SimI c (iRng1 (tCons te tNil)) (iRg1 pe) W := fun Ge He ρ σ G H r Rr k => by
  refine si_go (Q := fun x H1 => ∃ j : Int, [x] = [.int j] ∧ -(2 ^ 62) ≤ j ∧ j < 2 ^ 62 ∧ Rr (Itr 0 j.toNat) H1) (f := fun d => match d with
    | .int j => if rngOk j = true then .ok (rngD 0 j.toNat) else .bad
    | _ => .bad) h r k fun a v G' H' s q k => ?_
  cases q with
  | int j =>
    have k : IPst c W σ G H Rr (if rngOk j = true then .ok (rngD 0 j.toNat) else .bad) := k
    split at k
    · next hj => exact ⟨j, rfl, (rng_ok hj).1, (rng_ok hj).2, k _ _ _ s it_rng⟩
    · exact k.elim
  | _ => exact k.elim
theorem si_rg2 {ta tb : TE} {pa pb : List SV → R PyData} (h : Sim c rlE ta pa W) (h2 : Sim c rlE tb pb W) : SimI c (iRng2 (tCons ta (tCons tb tNil))) (iRg2 pa pb) W := fun Ge He ρ σ G H r Rr k => by
  refine si_go (Q := fun x H1 => tb σ H1 fun y H2 => ∃ i j : Int, [x, y] = [.int i, .int j] ∧ (-(2 ^ 62) ≤ i ∧ i < 2 ^ 62 ∧ -(2 ^ 62) ≤ j ∧ j < 2 ^ 62) ∧ Rr (Itr i (j - i).toNat) H2) (f := fun a => (pb ρ).bind fun b => match a, b with
    | .int i, .int j => if (rngOk i && rngOk j) = true then .ok (rngD i (j - i).toNat) else .bad
    | _, _ => .bad) h r k fun a v G1 H1 s1 q1 k => ?_
  refine h2 _ _ _ _ _ _ (r.mono s1) _ ?_
  cases e : pb ρ with
  | ok b =>
    rw [e] at k
    intro w G2 H2 s2 q2
    cases q1 with
    | int i =>
      cases q2 with
      | int j =>
        have k : IPst c W σ G H Rr (if (rngOk i && rngOk j) = true then .ok (rngD i (j - i).toNat) else .bad) := k
        split at k
        · next hj =>
          rw [Bool.and_eq_true] at hj
          have a1 := rng_ok hj.1
          have a2 := rng_ok hj.2
          exact ⟨i, j, rfl, ⟨a1.1, a1.2, a2.1, a2.2⟩, k _ _ _ (s1.trans s2) it_rng⟩
        · exact k.elim
      | _ => exact k.elim
    | _ => exact k.elim
  | exc n x => rw [e] at k; exact fun cls d G' H' s q => k cls d G' H' (s1.trans s) q
  | bad => rw [e] at k; exact k

/-! ### the loops -/
/-- a world is taken as the base -/
def mrg (G He : Hp) : Hp := fun a => match G a with
  | some o => some o
  | none => He a
theorem mrg_stp {Ge He G H : Hp} (s : Stp Ge He G H) : Stp Ge He G (mrg G He) := by
  refine ⟨s.g, fun a o e => ?_, fun a o e => ?_, s.k⟩
  · unfold mrg
    cases q : G a with
    | none => exact e
    | some o' =>
      have h1 := s.s a o' q
      have h2 := s.h a o e
      rw [h1] at h2
      exact h2
  · unfold mrg; rw [e]
theorem Rep.rebase {Ge He : Hp} {ρ : List SV} {σ : L2.St} {G H : Hp} (r : Rep c Ge He ρ σ G H) : Rep c G (mrg G He) ρ σ G H := by
  have hn : ∀ {p : Addr}, He p = none → G p = none → mrg G He p = none := fun h1 h2 => by unfold mrg; rw [h2]; exact h1
  refine ⟨⟨Same.refl G, fun a o e => ?_, r.st.s, fun a o e m n => n⟩, r.len, fun i s e => ?_, r.sep, fun i x e => ?_⟩
  · unfold mrg at e
    split at e
    · next q => cases e; exact r.st.s _ _ q
    · exact r.st.h _ _ e
  · have q := r.slot i s e
    cases s with
    | own xs => obtain ⟨p, vs, h1, h2, h3, h4⟩ := q; exact ⟨p, vs, h1, hn h2 h3, h3, h4⟩
    | oins a xs => obtain ⟨dx, vs, h1, h2, h3, h4⟩ := q; exact ⟨dx, vs, h1, hn h2 h3, h3, h4⟩
    | jnk => obtain ⟨p, vs, h1, h2, h3, h4⟩ := q; exact ⟨p, vs, h1, hn h2 h3, h3, h4⟩
    | un => trivial
    | fre x => trivial
    | d x => exact q
    | ins x => exact q
    | scr x => exact q
  · obtain ⟨v, Gx, h1, h2, h3, h4, h5⟩ := r.fre i x e
    exact ⟨v, Gx, h1, h2, h3, h4, fun a xs q => let ⟨q1, q2, q3⟩ := h5 a xs q; ⟨hn q1 q2, q2, q3⟩⟩
theorem Rep.unbase {Ge He Gb Hb : Hp} {ρ : List SV} {σ : L2.St} {G H : Hp} (s : Stp Ge He Gb Hb) (r : Rep c Gb Hb ρ σ G H) : Rep c Ge He ρ σ G H := by
  have hn : ∀ {p : Addr}, Hb p = none → He p = none := fun h => Same.free s.h h
  refine ⟨s.trans r.st, r.len, fun i t e => ?_, r.sep, fun i x e => ?_⟩
  · have q := r.slot i t e
    cases t with
    | own xs => obtain ⟨p, vs, h1, h2, h3⟩ := q; exact ⟨p, vs, h1, hn h2, h3⟩
    | oins a xs => obtain ⟨dx, vs, h1, h2, h3⟩ := q; exact ⟨dx, vs, h1, hn h2, h3⟩
    | jnk => obtain ⟨p, vs, h1, h2, h3⟩ := q; exact ⟨p, vs, h1, hn h2, h3⟩
    | un => trivial
    | fre x => trivial
    | d x => exact q
    | ins x => exact q
    | scr x => exact q
  · obtain ⟨v, Gx, h1, h2, h3, h4, h5⟩ := r.fre i x e
    exact ⟨v, Gx, h1, h2, h3, h4, fun a xs q => let ⟨q1, q2, q3⟩ := h5 a xs q; ⟨hn q1, q2, q3⟩⟩
theorem ss_for {wi : TI} {g : TG} {tb : TS} {pi : List SV → R (List PyData)} {pg : PyData → List SV → Option (List SV)} {ts : List Nat} {q : List SV → Fl} (hi : SimI c wi pi W) (hg : SimG c g pg ts) (hb : SimS c tb q W) : SimS c (tFor wi g tb) (qFor pi pg q) W := fun Ge He ρ σ G H D r k => by
  refine hi _ _ _ _ _ _ r _ ?_
  unfold qFor at k
  cases e : pi ρ with
  | exc n x => rw [e] at k; exact fun cls d G' H' s q => Post.e r k s q
  | bad => rw [e] at k; exact k
  | ok xs =>
    rw [e] at k
    have k : Post c Ge He D W (forGo pg q xs ρ) := k
    intro J G1 H1 s1 hJ
    have r1 := r.mono s1
    have base := mrg_stp r1.st
    have conv : ∀ fl, Post c Ge He D W fl → Post c G1 (mrg G1 He) D W fl := by
      intro fl k
      cases fl with
      | nx ρ' => exact fun σ' G' H' r => k σ' G' H' (r.unbase base)
      | rt d => exact fun v G' H' s q => k v G' H' (base.trans s) q
      | bk ρ' => exact fun σ' G' H' r => k σ' G' H' (r.unbase base)
      | ct ρ' => exact fun σ' G' H' r => k σ' G' H' (r.unbase base)
      | xc n x ρ' => exact fun cls d σ' G' H' r q => k cls d σ' G' H' (r.unbase base) q
      | bad => exact k
    refine ⟨fun i m σ2 H2 => m = xs.length - i ∧ i ≤ xs.length ∧ ∃ ρ2 G2, Rep c G1 (mrg G1 He) ρ2 σ2 G2 H2 ∧ Post c G1 (mrg G1 He) D W (forGo pg q (xs.drop i) ρ2), ⟨_, rfl, Nat.zero_le _, ρ, G1, r1.rebase, conv _ k⟩, ?_⟩
    rintro i m σ2 H2 ⟨rfl, hi2, ρ2, G2, r2, k2⟩
    by_cases hlt : i < xs.length
    · obtain ⟨go, yl⟩ := hJ.1 i G2 H2 r2.st.g r2.st.s hlt
      refine .inr ⟨go, _, fun σ' H' (h : ∃ ρ' G', Rep c G1 (mrg G1 He) ρ' σ' G' H' ∧ Post c G1 (mrg G1 He) D W (forGo pg q (xs.drop (i + 1)) ρ')) => ⟨xs.length - (i + 1), by omega, rfl, hlt, h⟩, fun x H3 y => ?_⟩
      obtain ⟨G3, d, s3, e3, q3⟩ := yl x H3 y
      have ed : xs.drop i = d :: xs.drop (i + 1) := by
        have h9 : xs[i] = d := by rw [List.getElem?_eq_getElem hlt] at e3; exact Option.some.inj e3
        rw [← h9]
        exact List.drop_eq_getElem_cons hlt
      rw [ed] at k2
      unfold forGo at k2
      split at k2
      · exact k2.elim
      · next ρ1 eg =>
        refine hg _ _ _ _ _ _ _ _ _ (r2.mono s3) q3 eg _ fun σ4 r4 _ _ => ?_
        refine hb _ _ _ _ _ _ _ r4 ?_
        cases eq : q ρ1 with
        | nx ρ5 => rw [eq] at k2; exact fun σ' G' H' r' => ⟨ρ5, G', r', k2⟩
        | ct ρ5 => rw [eq] at k2; exact fun σ' G' H' r' => ⟨ρ5, G', r', k2⟩
        | bk ρ5 => rw [eq] at k2; exact k2
        | rt d => rw [eq] at k2; exact k2
        | xc n x ρ' => rw [eq] at k2; exact k2
        | bad => rw [eq] at k2; exact k2
    · have : i = xs.length := by omega
      subst this
      rw [List.drop_length] at k2
      exact .inl ⟨hJ.2 _ G2 H2 r2.st.g r2.st.s (Nat.le_refl _), k2 σ2 G2 H2 r2⟩
theorem ss_while (n : Nat) {tc : TT} {tb : TS} {pc : List SV → R Bool} {q : List SV → Fl} (hc : SimT c tc pc W) (hb : SimS c tb q W) : SimS c (tWhile tc tb) (qWhile n pc q) W := fun Ge He ρ σ G H D r k => by
  refine ⟨fun m σ2 H2 => ∃ ρ2 G2, Rep c Ge He ρ2 σ2 G2 H2 ∧ Post c Ge He D W (whGo pc q m ρ2), ⟨n, ρ, G, r, k⟩, ?_⟩
  rintro m σ2 H2 ⟨ρ2, G2, r2, k2⟩
  cases m with
  | zero => exact k2.elim
  | succ m =>
    unfold whGo at k2
    refine hc _ _ _ _ _ _ r2 _ ?_
    cases e : pc ρ2 with
    | exc n x => rw [e] at k2; exact fun cls d G' H' s q => Post.e r2 k2 s q
    | bad => rw [e] at k2; exact k2
    | ok b =>
      rw [e] at k2
      intro G3 H3 s3
      have r3 := r2.mono s3
      cases b with
      | false => exact k2 σ2 G3 H3 r3
      | true =>
        have k2 : Post c Ge He D W (match q ρ2 with
          | .nx ρ2 => whGo pc q m ρ2
          | .ct ρ2 => whGo pc q m ρ2
          | .bk ρ2 => .nx ρ2
          | .rt d => .rt d
          | .xc n x ρ' => .xc n x ρ'
          | .bad => .bad) := k2
        refine ⟨fun σ' H' => ∃ ρ' G', Rep c Ge He ρ' σ' G' H' ∧ Post c Ge He D W (whGo pc q m ρ'), fun σ' H' h => ⟨m, Nat.lt_succ_self m, h⟩, ?_⟩
        refine hb _ _ _ _ _ _ _ r3 ?_
        cases eq : q ρ2 with
        | nx ρ5 => rw [eq] at k2; exact fun σ' G' H' r' => ⟨ρ5, G', r', k2⟩
        | ct ρ5 => rw [eq] at k2; exact fun σ' G' H' r' => ⟨ρ5, G', r', k2⟩
        | bk ρ5 => rw [eq] at k2; exact k2
        | rt d => rw [eq] at k2; exact k2
        | xc n x ρ' => rw [eq] at k2; exact k2
        | bad => rw [eq] at k2; exact k2

/-! ### comprehensions -/
theorem wipe_len2 (ρ : List SV) : ∀ vs : List Nat, (wipeR ρ vs).length = ρ.length
  | [] => rfl
  | v :: vs => by unfold wipeR; rw [List.length_set, wipe_len2 ρ vs]
theorem Rep.wipe {Ge He : Hp} {ρ : List SV} {σ : L2.St} {G H : Hp} (r : Rep c Ge He ρ σ G H) : ∀ vs : List Nat, Rep c Ge He (wipeR ρ vs) (L2.wipe σ vs) G H
  | [] => r
  | v :: vs => (Rep.wipe r vs).forget
theorem wipe_agree {σ τ : L2.St} : ∀ {vs : List Nat}, (∀ j, j ∉ vs → σ[j]? = τ[j]?) → σ.length = τ.length → L2.wipe σ vs = L2.wipe τ vs := by
  have key : ∀ (σ : L2.St) (vs : List Nat) (j : Nat), (L2.wipe σ vs)[j]? = if j ∈ vs then (if j < σ.length then some none else none) else σ[j]? := by
    intro σ vs
    induction vs with
    | nil => intro j; simp [L2.wipe]
    | cons v vs ih =>
      intro j
      unfold L2.wipe
      by_cases h : v = j
      · subst h
        by_cases hl : v < σ.length
        · rw [List.getElem?_set_self (by rw [wipe_length]; exact hl)]
          simp [hl]
        · rw [List.getElem?_eq_none (by rw [List.length_set, wipe_length]; omega)]
          simp [hl]
      · rw [List.getElem?_set_ne h, ih j]
        have : (j ∈ v :: vs) = (j ∈ vs) := by simp [List.mem_cons, Ne.symm h]
        simp only [this]
  intro vs h hl
  apply List.ext_getElem?
  intro j
  rw [key, key, hl]
  by_cases hj : j ∈ vs
  · rw [if_pos hj, if_pos hj]
  · rw [if_neg hj, if_neg hj]; exact h j hj
/-- D is not there -/
theorem hide_stp {G H G' H' : Hp} {D : Addr} (s : Stp G H G' H') {o : HO} (hD : H D = some o) (m : isM o = true) (gD : G D = none) : Stp G (hide H D) G' (hide H' D) := by
  have gD' := s.k D _ hD m gD
  refine ⟨s.g, fun a o e => ?_, fun a o e => ?_, fun a o e m n => ?_⟩
  · by_cases h : a = D
    · subst h; rw [hide_same] at e; cases e
    · rw [hide_ne h] at e ⊢; exact s.h _ _ e
  · have h : a ≠ D := fun h => by subst h; rw [gD'] at e; cases e
    rw [hide_ne h]; exact s.s _ _ e
  · by_cases h : a = D
    · subst h; rw [hide_same] at e; cases e
    · rw [hide_ne h] at e; exact s.k a o e m n
theorem hide_back {G H : Hp} {D : Addr} (s : Same G (hide H D)) (gD : G D = none) : Stp G (hide H D) G H :=
  ⟨Same.refl G, hide_sub H D, fun a o e => hide_sub H D a o (s a o e), fun _ _ _ _ n => n⟩
theorem hide_upd {H : Hp} {D : Addr} {o : HO} : hide (upd H D o) D = hide H D := by
  funext b
  unfold hide
  split
  · rfl
  · next h => exact upd_ne h
theorem sim_lc {wi : TI} {g : TG} {tt : TT} {te : TE} {pi : List SV → R (List PyData)} {pg : PyData → List SV → Option (List SV)} {ts : List Nat} {pt : List SV → R Bool} {pe : List SV → R PyData} {vs : List Nat} (hi : SimI c wi pi W) (hg : SimG c g pg ts) (hts : ∀ j, j ∈ ts → j ∈ vs)
    (ht : SimT c tt pt (fun _ _ _ _ => False)) (he : Sim c rlE te pe (fun _ _ _ _ => False)) : SimN c (tLc wi g tt te vs) (pLc pi pg pt pe vs) W := fun Ge He ρ σ G H r Q k => by
  refine hi _ _ _ _ _ _ r _ ?_
  unfold pLc at k
  cases e : pi ρ with
  | exc n x => rw [e] at k; exact k
  | bad => rw [e] at k; exact k
  | ok xs =>
    rw [e] at k
    have k : NPost c W σ G H Q (if decide (xs.length < 1000000) = true then lcGo pg pt pe (wipeR ρ vs) xs else .bad) := k
    split at k
    · next hlen =>
      have hlen := of_decide_eq_true hlen
      intro J G1 H1 s1 hJ D hD
      have gD : G1 D = none := Same.free s1.s hD
      have r1 := (r.mono s1).rebase.wipe vs
      generalize wipeR ρ vs = ρw at k r1
      have hH : hide (upd H1 D (.lst [])) D = H1 := by
        rw [hide_upd]
        funext b
        unfold hide
        split
        · next h => rw [h]; exact hD.symm
        · rfl
      -- what holds ahead of a turn: the list so far, and what the rest gives
      refine ⟨fun i m H2 => m = xs.length - i ∧ i ≤ xs.length ∧ ∃ G2 acc ds, Rep c G1 (mrg G1 He) ρw (L2.wipe σ vs) G2 (hide H2 D) ∧ G2 D = none ∧ Stp G1 H1 G2 (hide H2 D) ∧ H2 D = some (.lst acc) ∧ RpAll G2 acc ds ∧ acc.length ≤ i ∧
        NPost c W σ G H Q ((lcGo pg pt pe ρw (xs.drop i)).bind fun zs => .ok (ds ++ zs)), ⟨_, rfl, Nat.zero_le _, G1, [], [], by rw [hH]; exact r1, gD, by rw [hH]; exact Stp.refl s1.s, upd_same, .nil, Nat.le_refl _, ?_⟩, ?_⟩
      · rw [List.drop_zero]
        cases ek : lcGo pg pt pe ρw xs with
        | ok zs => rw [ek] at k; exact k
        | exc n x => rw [ek] at k; exact k
        | bad => rw [ek] at k; exact k
      · rintro i m H2 ⟨rfl, hi2, G2, acc, ds, r2, gD2, s2, hD2, q2, la, k2⟩
        have sG : Same G2 H2 := fun a o h => hide_sub H2 D a o (r2.st.s a o h)
        have sb := hide_back r2.st.s gD2
        by_cases hlt : i < xs.length
        · obtain ⟨go, yl⟩ := hJ.1 i G2 H2 r2.st.g sG hlt
          refine .inr ⟨go, _, fun H' (h : ∃ G2 acc ds, Rep c G1 (mrg G1 He) ρw (L2.wipe σ vs) G2 (hide H' D) ∧ G2 D = none ∧ Stp G1 H1 G2 (hide H' D) ∧ H' D = some (.lst acc) ∧ RpAll G2 acc ds ∧ acc.length ≤ i + 1 ∧
            NPost c W σ G H Q ((lcGo pg pt pe ρw (xs.drop (i + 1))).bind fun zs => .ok (ds ++ zs))) => ⟨xs.length - (i + 1), by omega, rfl, hlt, h⟩, fun x H3 y => ?_⟩
          obtain ⟨G3, d, s3, e3, q3⟩ := yl x H3 y
          have ed : xs.drop i = d :: xs.drop (i + 1) := by
            have h9 : xs[i] = d := by rw [List.getElem?_eq_getElem hlt] at e3; exact Option.some.inj e3
            rw [← h9]
            exact List.drop_eq_getElem_cons hlt
          rw [ed] at k2
          unfold lcGo at k2
          split at k2
          · exact k2.elim
          · next ρ1 eg =>
            have r3 := (r2.mono sb).mono s3
            have sh3 := hide_stp s3 hD2 rfl gD2
            have gD3 := s3.k D _ hD2 rfl gD2
            have hD3 := s3.h D _ hD2
            have r3h := r2.mono sh3
            refine hg _ _ _ _ _ _ _ _ _ r3 q3 eg _ fun σ4 r4 hσ hl => ?_
            refine ⟨?_, ?_⟩
            · refine (wipe_agree (vs := vs) (fun j hj => ?_) (by rw [hl, wipe_length])).trans rfl
              rw [hσ j (fun h => hj (hts j h)), wipe_out hj]
            · -- the test
              refine ht _ _ _ _ _ _ r4 _ ?_
              cases et : pt ρ1 with
              | exc n x => rw [et] at k2; exact k2.elim
              | bad => rw [et] at k2; exact k2.elim
              | ok b =>
                rw [et] at k2
                intro G4 H4 s4
                have sh4 := hide_stp s4 hD3 rfl gD3
                have gD4 := s4.k D _ hD3 rfl gD3
                have hD4 := s4.h D _ hD3
                cases b with
                | false =>
                  show ∃ G2 acc ds, _
                  exact ⟨G4, acc, ds, r3h.mono sh4, gD4, (s2.trans sh3).trans sh4, hD4, q2.mono (s3.g.trans s4.g), by omega, k2⟩
                | true =>
                  show te σ4 H4 _
                  have k2 : NPost c W σ G H Q ((match pe ρ1 with
                    | .ok y => (lcGo pg pt pe ρw (xs.drop (i + 1))).bind fun ys => .ok (y :: ys)
                    | _ => .bad).bind fun zs => .ok (ds ++ zs)) := k2
                  refine he _ _ _ _ _ _ (r4.mono s4) _ ?_
                  cases ee : pe ρ1 with
                  | exc n x => rw [ee] at k2; exact k2.elim
                  | bad => rw [ee] at k2; exact k2.elim
                  | ok y =>
                    rw [ee] at k2
                    intro v G5 H5 s5 q5
                    have sh5 := hide_stp s5 hD4 rfl gD4
                    have gD5 := s5.k D _ hD4 rfl gD4
                    have hD5 := s5.h D _ hD4
                    refine ⟨acc, hD5, by rw [PySem.sizeLine_eq]; omega, G5, acc ++ [v], ds ++ [y], ?_, gD5, ?_, upd_same, (q2.mono ((s3.g.trans s4.g).trans s5.g)).append (.cons q5 .nil), by rw [List.length_append]; show acc.length + 1 ≤ i + 1; omega, ?_⟩
                    · rw [hide_upd]
                      exact (r3h.mono sh4).mono sh5
                    · rw [hide_upd]
                      exact ((s2.trans sh3).trans sh4).trans sh5
                    · have k2 : NPost c W σ G H Q (((lcGo pg pt pe ρw (xs.drop (i + 1))).bind fun ys => .ok (y :: ys)).bind fun zs => .ok (ds ++ zs)) := k2
                      cases ek : lcGo pg pt pe ρw (xs.drop (i + 1)) with
                      | ok zs =>
                        rw [ek] at k2
                        have k2 : NPost c W σ G H Q (.ok (ds ++ (y :: zs))) := k2
                        show NPost c W σ G H Q (.ok ((ds ++ [y]) ++ zs))
                        rw [List.append_assoc]
                        exact k2
                      | exc n x => rw [ek] at k2; exact k2
                      | bad => rw [ek] at k2; exact k2
        · have : i = xs.length := by omega
          subst this
          rw [List.drop_length] at k2
          have k2 : NPost c W σ G H Q (.ok (ds ++ [])) := k2
          rw [List.append_nil] at k2
          refine .inl ⟨hJ.2 _ G2 H2 r2.st.g sG (Nat.le_refl _), ?_⟩
          exact k2 D acc G2 H2 (Same.free s1.h hD) ((s1.trans s2).trans sb) gD2 hD2 q2
    · exact k.elim
end
end Sm

set_option Elab.async false
set_option linter.all false
set_option maxRecDepth 100000
set_option maxHeartbeats 2000000
/-! Sm5: the rules by which a def's text is read as a plain function. -/
namespace PySem
theorem meets_enumerate_newT (l : Addr) (items : Array Value) (H : Heap → Prop) (hH : ∀ h, H h → h.IsTuple l items) :
    Meets (Builtin.«enumerate.__new__» ⟨[.type "enumerate", .ref l], []⟩) (fun _ R s => H s.heap ∧
      R (.ok (.ret (.ref (s.heap.push { cls := .type "tuple_iterator", data := .fields #[.ref l, .int 0 0] }).objs.size)))
        { s with heap := (s.heap.push { cls := .type "tuple_iterator", data := .fields #[.ref l, .int 0 0] }).push { cls := .type "enumerate", data := .fields #[.none, .bool false, .ref s.heap.objs.size, rawInt 0, .none, .none] } }) :=
  .of_wp fun prog w A R s h => by
    obtain ⟨hp, g, d, tk, os⟩ := s
    obtain ⟨hT, h⟩ := h
    have q1 : ∀ {A' : Around} {E' : Value → Shared → Prop} {Q' : Value → Shared → Prop} {tk' : Nat}, Q' (.ref hp.objs.size) ⟨hp.push { cls := .type "tuple_iterator", data := .fields #[.ref l, .int 0 0] }, g, d, tk', os⟩ → wpAny (model prog w) A' (pyIter (.ref l)) Q' E' ⟨hp, g, d, tk', os⟩ :=
      fun h' => wpAny_pyIter_tuple (hH _ hT) h'
    have hsub := sub_enumerate
    wp_walk
    refine wpAny_stack_any fun st => wpAny_pure ?_
    split
    · rename_i c _ _ _ _ _
      cases (c == Value.type "enumerate")
      · wp_walk using q1
        exact ⟨_, rfl, h⟩
      · wp_walk using q1
        exact ⟨_, rfl, h⟩
    · wp_walk using q1
      exact ⟨_, rfl, h⟩
theorem call_enumerate_tuple {prog : Program} {w : World} {A : Around} {E : Value → Shared → Prop} {s : Shared} {l : Addr} {items : Array Value} {Q : Value → Shared → Prop} (hL : s.heap.IsTuple l items)
    (h : ∀ h', IsEnum h' (s.heap.objs.size + 1) s.heap.objs.size 0 .none → h'.IsTupleIter s.heap.objs.size l 0 → h'.objs.size = s.heap.objs.size + 2 →
      (∀ b o, s.heap.get? b = some o → h'.get? b = some o) → Q (.ref (s.heap.objs.size + 1)) { s with heap := h' }) :
    wpAny (model prog w) A (call (.type "enumerate") [.ref l]) Q E s := by
  refine callType_new F.called_enumerate (by decide) (F.typeCall_enumerate_1 _) (F.newCall_enumerate_1 _) (fun obj => F.args_object_init_2 obj _) F.entry_enumerate_new
    (meets_enumerate_newT l items (fun h => h.IsTuple l items) fun _ h => h) ⟨hL, ?_⟩
  have hz : (s.heap.push { cls := .type "tuple_iterator", data := .fields #[.ref l, .int 0 0] }).objs.size = s.heap.objs.size + 1 := Heap.size_push ..
  show _ ∧ _
  rw [hz]
  have he : IsEnum ((s.heap.push { cls := .type "tuple_iterator", data := .fields #[.ref l, .int 0 0] }).push
      { cls := .type "enumerate", data := .fields #[.none, .bool false, .ref s.heap.objs.size, rawInt 0, .none, .none] }) (s.heap.objs.size + 1) s.heap.objs.size 0 .none := by
    have := Heap.get?_push_size (s.heap.push { cls := .type "tuple_iterator", data := .fields #[.ref l, .int 0 0] })
      (o := { cls := .type "enumerate", data := .fields #[.none, .bool false, .ref s.heap.objs.size, rawInt 0, .none, .none] }) rfl
    rw [hz] at this; exact this
  refine ⟨⟨_, he, rfl⟩, h _ he ⟨_, Heap.get?_push_of_some _ (Heap.get?_push_size _ rfl), rfl, rfl⟩ (by rw [Heap.size_push, hz]) fun b o x => Heap.get?_push_of_some _ (Heap.get?_push_of_some _ x)⟩
end PySem
namespace Sm
open PySem PySem.Spec PyProof.Rows L2
theorem turn_enumT {P : Program} {w : World} {K : PySem.W.Frag} {elts : List Expr} {kk : Nat} {tpos : Pos} (a e it : Addr) (hai : a ≠ it) (hae : e ≠ a) :
    Turn P w K (.Tuple elts kk tpos) (IteT K a) [e, it] e (fun i h => (∃ old, IsEnum h e it ((i : Nat) : Int) old) ∧ h.IsTupleIter it a i ∧ e ≠ it) where
  mem := by simp
  obj := fun i h st b hb => by
    obtain ⟨⟨old, he⟩, ⟨o, ho, hc, hd⟩, _⟩ := st
    have e' : b = e ∨ b = it := by simpa using hb
    rcases e' with z | z
    · rw [z]; exact ⟨_, he, fun v q => nomatch q⟩
    · rw [z]; exact ⟨o, ho, fun v q => by rw [hd] at q; cases q⟩
  keep := fun i h h' st k => let ⟨⟨old, he⟩, hi, hne⟩ := st; ⟨⟨old, k e (by simp) _ he⟩, hi.at fun o q => k it (by simp) o q, hne⟩
  item := by
    intro X hP hw hK hc i pins s σ H E I hf st hg
    subst hP hw hK
    obtain ⟨⟨old, he⟩, hit, hne⟩ := st
    obtain ⟨xs, x, hq, hx⟩ := hg
    obtain ⟨its, rv, p, hz⟩ := I.tuple hq
    obtain ⟨u, hu, ru⟩ := rv.get hx
    have hel : e < s.heap.objs.size := Heap.lt_size he
    have hil : it < s.heap.objs.size := by obtain ⟨_, q, _⟩ := hit; exact Heap.lt_size q
    have hlt : i < its.toArray.size := by
      have := (List.getElem?_eq_some_iff.mp hu).1
      simpa using this
    refine wpAny_pyNext_enum_itemD (Draws.tuple (A := X.A.in1) (I.ok.hd hc) it a hai its.toArray) he ⟨hit, p⟩ hlt hne (by simp [hne, hae]) fun x' h' tk hP ho hst' hT hsz hk => ?_
    have hx' : x' = u := by
      have h1 : its.toArray[i]? = some x' := hP
      have h2 : its.toArray[i]? = some u := by simpa using hu
      rw [h1] at h2
      exact Option.some.inj h2
    subst hx'
    have hit' := hst'.1
    refine ⟨_, rfl, wpAny_letOwnedTupleGo_enum (s := { s with heap := h', toks := tk + 1 }) ho fun h'' he' sb => ?_⟩
    have hT2 : h''.get? s.heap.objs.size = some { cls := .type "tuple", data := .seq #[.int i tk, x'] } := (sb.2 _ (Nat.ne_of_gt hel)).trans hT
    have new : ObjOk X.prog X.w (upd H s.heap.objs.size (.tup [.int (i : Nat), x])) h'' s.heap.objs.size (.tup [.int (i : Nat), x]) :=
      ⟨by show 2 ≤ sizeLine; decide, [.int i tk, x'], .cons ⟨_, rfl⟩ (.cons ru .nil), ⟨_, hT2, rfl, _, rfl⟩⟩
    have I1 : Inv X pins σ (upd H s.heap.objs.size (.tup [.int (i : Nat), x])) { s with heap := h'', toks := tk + 1 } :=
      I.turnedNew (ch := [e, it]) (fun b ob hb q => (sb.2 b (fun z => hb (by simp [z]))).trans (hk b ob (fun z => hb (by simp [z])) (fun z => hb (by simp [z])) q)) hf (Nat.le_refl _) new
    refine ⟨.ref s.heap.objs.size, _, I1, rfl, ⟨_, x, rfl, I.hok.fresh (Nat.le_refl _), rfl, fun ys hy => by rw [I.tuple_inj hy hq]; exact hx⟩, ⟨⟨x', ?_⟩, hit'.at fun o q => (sb.2 it (Ne.symm hne)).trans q, hne⟩, fun b hb => ?_⟩
    · have e1 : ((i + 1 : Nat) : Int) = (i : Int) + 1 := by omega
      rw [e1]; exact he'
    · have hb' : b < s.heap.objs.size := by
        have e' : b = e ∨ b = it := by simpa using hb
        rcases e' with z | z
        · rw [z]; exact hel
        · rw [z]; exact hil
      rw [upd_ne (Nat.ne_of_lt hb')]
      exact (hf b hb).1
  done := by
    intro X hP hw hK hc i pins s σ H E I hf st hg
    subst hP hw hK
    obtain ⟨⟨old, he⟩, hit, hne⟩ := st
    obtain ⟨xs, hq, hx⟩ := hg
    obtain ⟨its, rv, p, hz⟩ := I.tuple hq
    obtain ⟨f0, f1, f2, f3, f4, f5⟩ := hf it (by simp)
    have hl := rv.length
    have D := Draws.tuple (prog := X.prog) (w := X.w) (A := X.A.in1) (I.ok.hd hc) it a hai its.toArray
    have hT : s.TypeIs (.ref e) "enumerate" := ⟨_, he, rfl⟩
    unfold pyNext
    refine wpAny_bind (wpAny_attempt (wpAny_callSpecial?_slot (name := Str.ofString "__next__") hT F.slot_enumerate_next
      (wpAny_call_entry F.slot_enumerate_next hT F.entry_enumerate_next ?_ (F.args_enumerate_next_1 _))))
    show wpAny _ _ (field (.ref e) 2 >>= _) _ _ _
    refine wpAny_bind (wpAny_field he rfl (x := .ref it) rfl ?_)
    refine wpAny_bind (wpAny_nextOf_tuple_end (I.ok.hd hc) hit p (by simp; omega) fun h' x eb hx' => ?_)
    obtain ⟨o, ho, hc'⟩ := hx'
    refine wpAny_bind (wpAny_isInstance (T := "StopIteration") (b := true) ⟨o, ho, hc'⟩ isSubtype_stop ?_)
    exact wpAny_pure ⟨rfl, I.turned (t' := s.toks) (fun b o hb q => eb b o hb q) f0 f1 f3 f4 f5⟩
  self := fun A i s Q E st h => let ⟨⟨_, he⟩, _⟩ := st; wpAny_pyIter_enum he h
end Sm

set_option Elab.async false
set_option linter.all false
set_option maxRecDepth 100000
set_option maxHeartbeats 2000000
/-! Sm6: the rules by which a def's text is read as a plain function. -/
namespace Sm
open PySem PySem.Spec PyProof.Rows L2
section
variable {X : Cx}
theorem pi_seqT {tg l : Expr} {tl : TE} (hl : PE X l tl) : PI X tg l (iSeqT X.K tl) := by
  refine ⟨fun pins s σ H R I h => ?_⟩
  refine thn (hl.run pins s σ H _ I h) fun v s1 ⟨x, H1, I1, r1, q1⟩ => ?_
  obtain ⟨a, e, ⟨⟨xs, hq⟩, q⟩ | ⟨⟨xs, hq⟩, q⟩⟩ := q1
  · subst e
    cases r1
    obtain ⟨its, rv, p, hz⟩ := I1.list hq
    refine wpAny_pyIter_list p.isList ?_
    refine ⟨s1.heap.objs.size, [s1.heap.objs.size], _, _, H1, rfl, I1.kept (t' := s1.toks) fun b o e => Heap.get?_push_of_some _ e, turn_list a _, ⟨_, Heap.get?_push_size _ rfl, rfl, rfl⟩, fun b hb => ?_, q⟩
    have e : b = s1.heap.objs.size := by simpa using hb
    subst e
    exact I1.fpOk (Nat.le_refl _) (I1.hok.fresh (Nat.le_refl _))
  · subst e
    cases r1
    obtain ⟨its, rv, p, hz⟩ := I1.tuple hq
    refine wpAny_pyIter_tuple (show s1.heap.IsTuple a its.toArray from p) ?_
    refine ⟨s1.heap.objs.size, [s1.heap.objs.size], _, _, H1, rfl, I1.kept (t' := s1.toks) fun b o e => Heap.get?_push_of_some _ e, turn_tuple a _, ⟨_, Heap.get?_push_size _ rfl, rfl, rfl⟩, fun b hb => ?_, q⟩
    have e : b = s1.heap.objs.size := by simpa using hb
    subst e
    exact I1.fpOk (Nat.le_refl _) (I1.hok.fresh (Nat.le_refl _))
theorem pi_enT {e : Expr} {te : TE} {p pos tpos : Pos} {elts : List Expr} {kk : Nat} (hg : Gl X "enumerate") (hm : X.mg "enumerate" = none) (ha : PE X e te) (hs : starEach [e] X.env = [(false, eval e X.env)] := by rfl)
    (hs1 : starEach (e :: []) X.env = (false, eval e X.env) :: starEach [] X.env := by rfl) :
    PI X (.Tuple elts kk tpos) (.Call (.Name "enumerate" p) [e] [] pos) (iEnT X.K te) := by
  refine ⟨fun pins s σ H R I h => ?_⟩
  have h : tCons te tNil σ H (fun vs H1 => match vs with
    | [x] => ∃ a, x = .ref a ∧ (((∃ xs, SqL X.K H1 a xs) ∧ R (Ite X.K a) H1) ∨ ((∃ xs, SqT X.K H1 a xs) ∧ R (IteT X.K a) H1))
    | _ => False) := h
  refine Call_ (ld_blt I hg hm boot_enumerate (PyProof.Rows.callWith_type1 (thn ((pa_cons ha pa_nil hs1).run pos pins s σ H _ I h) fun us s1 ⟨vs, H1, I1, r1, q1⟩ => ?_) hs rfl))
  cases r1 with
  | nil => exact q1.elim
  | cons r rr =>
    cases rr with
    | cons _ _ => exact q1.elim
    | nil =>
      obtain ⟨a, ex, q1⟩ := q1
      subst ex
      cases r
      rcases q1 with ⟨⟨xs, hq⟩, q⟩ | ⟨⟨xs, hq⟩, q⟩
      · obtain ⟨its, rv, p', hz⟩ := I1.list hq
        refine call_enumerate_list p'.isList fun h' he hit hsz hk => wpAny_pyIter_enum he ?_
        have I2 : Inv X pins σ H1 { s1 with heap := h' } := I1.kept (t' := s1.toks) hk
        refine ⟨s1.heap.objs.size + 1, [s1.heap.objs.size + 1, s1.heap.objs.size], _, _, H1, rfl, I2, turn_enum a (s1.heap.objs.size + 1) s1.heap.objs.size, ⟨⟨.none, he⟩, hit, Nat.succ_ne_self _⟩, fun b hb => ?_, q⟩
        have e' : b = s1.heap.objs.size + 1 ∨ b = s1.heap.objs.size := by simpa using hb
        have hle : s1.heap.objs.size ≤ b := by
          rcases e' with z | z
          · rw [z]; exact Nat.le_add_right _ _
          · rw [z]; exact Nat.le_refl _
        exact I1.fpOk hle (I1.hok.fresh hle)
      · obtain ⟨its, rv, p', hz⟩ := I1.tuple hq
        have hal : a < s1.heap.objs.size := p'.lt
        refine call_enumerate_tuple (show s1.heap.IsTuple a its.toArray from p') fun h' he hit hsz hk => wpAny_pyIter_enum he ?_
        have I2 : Inv X pins σ H1 { s1 with heap := h' } := I1.kept (t' := s1.toks) hk
        refine ⟨s1.heap.objs.size + 1, [s1.heap.objs.size + 1, s1.heap.objs.size], _, _, H1, rfl, I2, turn_enumT a (s1.heap.objs.size + 1) s1.heap.objs.size (Nat.ne_of_lt hal) (Nat.ne_of_gt (Nat.lt_succ_of_lt hal)), ⟨⟨.none, he⟩, hit, Nat.succ_ne_self _⟩, fun b hb => ?_, q⟩
        have e' : b = s1.heap.objs.size + 1 ∨ b = s1.heap.objs.size := by simpa using hb
        have hle : s1.heap.objs.size ≤ b := by
          rcases e' with z | z
          · rw [z]; exact Nat.le_add_right _ _
          · rw [z]; exact Nat.le_refl _
        exact I1.fpOk hle (I1.hok.fresh hle)
theorem pg_seq {es : List Expr} {k : Nat} {t : TGs} {n : Nat} {pos : Pos} (hc : X.calm = true) (h : PGs X es t)
    (hn : (assignEach es X.env).length = n := by rfl) (hst : (assignEach es X.env).findIdx? (·.1) = none := by rfl) : PG X (.Tuple es k pos) (gSeq X.K n t) :=
  ⟨fun pins s σ H v u Q I r hw => by
    rcases hw with hw | hw
    · exact (pg_tup (k := k) (pos := pos) hc h hn hst).run pins s σ H v u Q I r hw
    · exact (pg_lst (k := k) (pos := pos) hc h hn hst).run pins s σ H v u Q I r hw⟩

/-! ### methods and makers whose errors are wished for at the caller's slots -/
variable {CXt : CXT} {k : Nat} {f C : Addr} {fd : FuncData} {ps : List Str} {sp : Sp} {x m : Str} {p pos apos : Pos} {e o : Expr} {es : List Expr} {ta : TE} {t : TA} {W : WX}
theorem pe_methS {pl : Sem Bool} (he : PE X o ta) (c : Cls X.K C) (hm : Meth X.K C m f) (F : FnOk X.prog X.w X.K X.mg X.base (L2.CX X.prog X.w) k f fd ps sp) (hr : Room k X.A) (hb : Binds X.K fd ps []) (tk : Takes X W) (ha : PA X (e :: es) t)
    (hst : starEach (e :: es) X.env = (false, eval e X.env) :: starEach es X.env := by rfl) (hpl : (backTo pos (starEach es X.env)).any (·.1) = false := by rfl)
    (ht : eval (.Call (.Attribute o m apos) (e :: es) [] pos) X.env = (do
      let ov ← eval o X.env
      standAt apos.atName
      let (f, first) ← holding [ov] (getMethod ov m pl)
      callWith pos f first (backTo pos (starEach (e :: es) X.env)) (backToKw pos (keywordEach [] X.env))) := by rfl) :
    PE X (.Call (.Attribute o m apos) (e :: es) [] pos) (tMethS C m sp W ta t) := by
  refine ⟨fun pins s σ H Q I h => ?_⟩
  refine PySem.W.methodCall_KW (pl := pl) (thn (he.run pins s σ H _ I h) fun u s1 ⟨x, H1, I1, rx, a, dx, fs, ex, ea, l, q⟩ => ?_) ht
  subst ex
  obtain rfl : u = Value.ref a := rx
  refine getmeth_ok I1 ea c hm l ?_
  refine PySem.W.callWith_K (first := [.ref a]) (h₀ := X.base) I.ok.mod.kin hm.kp (thn (ha.run pos pins s1 σ H1 _ I1 q) fun us s2 ⟨vs, H2, I2, r, q2⟩ => ⟨I2.kIn, ?_⟩) hst hpl
  exact run_fnS (us := .ref a :: us) (vs := .ref a :: vs) (E := WE W) F hr hb (passAt tk σ) I2 (.cons rfl r) q2
theorem pe_methS0 {pl : Sem Bool} (he : PE X o ta) (c : Cls X.K C) (hm : Meth X.K C m f) (F : FnOk X.prog X.w X.K X.mg X.base (L2.CX X.prog X.w) k f fd ps sp) (hr : Room k X.A) (hb : Binds X.K fd ps []) (tk : Takes X W)
    (ht : eval (.Call (.Attribute o m apos) [] [] pos) X.env = (do
      let ov ← eval o X.env
      standAt apos.atName
      let (f, first) ← holding [ov] (getMethod ov m pl)
      callWith pos f first (backTo pos (starEach [] X.env)) (backToKw pos (keywordEach [] X.env))) := by rfl) :
    PE X (.Call (.Attribute o m apos) [] [] pos) (tMethS C m sp W ta tNil) := by
  refine ⟨fun pins s σ H Q I h => ?_⟩
  refine PySem.W.methodCall_KW (pl := pl) (thn (he.run pins s σ H _ I h) fun u s1 ⟨x, H1, I1, rx, a, dx, fs, ex, ea, l, q⟩ => ?_) ht
  subst ex
  obtain rfl : u = Value.ref a := rx
  refine getmeth_ok I1 ea c hm l ?_
  exact PySem.W.callWith_K0 (first := [.ref a]) I1.kIn hm.kp (run_fnS (us := [.ref a]) (vs := [.ref a]) (E := WE W) F hr hb (passAt tk σ) I1 (.cons rfl .nil) q)
def tMakeS (C : Addr) (sp : Sp) (W : WX) (t : TA) : TE := fun σ H Q => t σ H fun vs H1 => ∀ x dx, H1 x = none → H1 dx = none → dx ≠ x →
  sp (.ref x :: vs) (upd (upd H1 dx (.own x)) x (.ins C dx [])) (fun v H2 => v = .non ∧ Q (.ref x) H2) (WE W σ)
theorem run_makeS {pins : List (Addr × Obj)} {σ : L2.St} {H : Hp} {s : Shared} {Q : VK} {us : List Value} {vs : List V} (M : Mk X.K C f) (F : FnOk X.prog X.w X.K X.mg X.base (L2.CX X.prog X.w) k f fd ps sp) (hr : Room (k + 1) X.A) (hb : Binds X.K fd ps [])
    (tk : Takes X W) (I : Inv X pins σ H s) (r : Vals vs us)
    (h : ∀ x dx, H x = none → H dx = none → dx ≠ x → sp (.ref x :: vs) (upd (upd H dx (.own x)) x (.ins C dx [])) (fun v H2 => v = .non ∧ Q (.ref x) H2) (WE W σ)) :
    wpAny (model X.prog X.w) X.A (call (.ref C) us) (EP X pins σ Q) X.xe s := by
  have hq := h (s.heap.objs.size + 1) s.heap.objs.size (I.hok.fresh (Nat.le_succ _)) (I.hok.fresh (Nat.le_refl _)) (Nat.ne_of_lt (Nat.lt_succ_self _))
  have I2 := Inv.made (C := C) I
  have r2 : Vals (V.ref (s.heap.objs.size + 1) :: vs) (Value.ref (s.heap.objs.size + 1) :: us) := .cons rfl r
  have hl : (Value.ref (s.heap.objs.size + 1) :: us).length = ps.length := by
    have e := r2.length
    rw [F.len _ _ _ _ hq] at e
    exact e.symm
  have b := hb _ (Value.ref (s.heap.objs.size + 1) :: us) I2.kIn (by rw [List.append_nil]; exact hl)
  rw [List.append_nil] at b
  refine wpAny_call (make_map (f := f) I.kIn M.makes M.init (beq_iff_eq.mp M.fn) (codeAny_mono (F.run _ X.stack _ _ ⟨Value.ref (s.heap.objs.size + 1) :: us, []⟩ (Value.ref (s.heap.objs.size + 1) :: us) _ _ (WE W σ) (hr.make C us [])
    (I2.env0.make C us []) b r2 hq) fun r s' hq' => ?_))
  cases r with
  | error e => exact passAt tk σ pins _ _ e s' I2 hq'
  | ok fl =>
    cases fl with
    | ret u =>
      obtain ⟨v, H', I3, rv, ev, q3⟩ := I2.after hq'
      subst ev
      exact ⟨rv, ⟨V.ref (s.heap.objs.size + 1), H', I3, rfl, q3⟩⟩
    | next => exact False.elim hq'
    | brk => exact False.elim hq'
    | cont => exact False.elim hq'
theorem pe_makeS (M : Mk X.K C f) (F : FnOk X.prog X.w X.K X.mg X.base (L2.CX X.prog X.w) k f fd ps sp) (hr : Room (k + 1) X.A) (hg : Gl X x) (hm : X.mg x = some (.ref C)) (hb : Binds X.K fd ps []) (tk : Takes X W)
    (ha : PA X (e :: es) t) (hdb : (x == ("__debug__" : Str)) = false := by decide) (he : starEach (e :: es) X.env = (false, eval e X.env) :: starEach es X.env := by rfl) (hpl : (backTo pos (starEach es X.env)).any (·.1) = false := by rfl) :
    PE X (.Call (.Name x p) (e :: es) [] pos) (tMakeS C sp W t) := by
  refine ⟨fun pins s σ H Q I h => ?_⟩
  refine wpAny_Call_Name_kw (ld_glob I hg hm ?_ hdb)
  refine PySem.W.callWith_K (h₀ := X.base) I.ok.mod.kin M.kp (thn (ha.run pos pins s σ H _ I h) fun us s1 ⟨vs, H1, I1, r, q⟩ => ⟨I1.kIn, ?_⟩) he hpl
  exact run_makeS M F hr hb tk I1 r q
end
end Sm

set_option Elab.async false
set_option linter.all false
set_option maxRecDepth 100000
set_option maxHeartbeats 2000000
/-! Sm7: making an object, raising, catching; the rules by name. -/
namespace Sm
open PySem PySem.Spec PyProof.Rows L2

/-! ### making -/
def R.lfs : R (List PyData) → R (List PyData)
  | .ok d => if lfAll d = true then .ok d else .bad
  | .exc n x => if Sm.lf x = true then .exc n x else .bad
  | .bad => .bad
def pMake (pf : List SV → R (List PyData)) (pa : List SV → R (List SV)) : List SV → R (List PyData) := fun ρ => (pa ρ).bind fun as => (pf as).lfs
def endI (a : Addr) : Fl → R (List PyData)
  | .nx (.oins b fs :: _) => if b = a ∧ fs.length = nmB.length then .ok fs else .bad
  | .xc n x _ => .exc n x
  | _ => .bad
def runI (n N : Nat) (p : List SV → Fl) (a : Addr) : List SV → R (List PyData) := fun as => if as.length + 1 = n then endI a (p (.oins a [] :: as ++ List.replicate (N - n) .un)) else .bad
section
variable {c : Cf} {W : WX}
theorem sim_make {pf : List SV → R (List PyData)} {ta : TA} {pa : List SV → R (List SV)} (h : SimA c true ta pa W) : Sim c (rlO c) (tMakeS c.C (spI c pf) W ta) (pMake pf pa) W := fun Ge He ρ σ G H r Q k => by
  refine h _ _ _ _ _ _ r _ ?_
  unfold pMake at k
  cases e : pa ρ with
  | exc n x => rw [e] at k; exact k
  | bad => rw [e] at k; exact k
  | ok as =>
    rw [e] at k
    have k : EPost c (rlO c) W σ G H Q (pf as).lfs := k
    intro vs G1 H1 s1 q1 x dx hx hdx ne
    have g1 : G1 x = none := Same.free s1.s hx
    have sH : Same H1 (upd (upd H1 dx (.own x)) x (.ins c.C dx [])) := fun a o h => by
      rw [upd_ne (ne_of_none h hx), upd_ne (ne_of_none h hdx)]; exact h
    have sHh : Same H1 (hide (upd (upd H1 dx (.own x)) x (.ins c.C dx [])) x) := fun a o h => by
      rw [hide_ne (ne_of_none h hx)]; exact sH a o h
    refine ⟨x, dx, vs, H1, as, rfl, upd_same, hx, sH, q1, ?_⟩
    cases ep : pf as with
    | bad => rw [ep] at k; exact k.elim
    | exc n y =>
      rw [ep] at k
      have k : EPost c (rlO c) W σ G H Q (if Sm.lf y = true then .exc n y else .bad) := k
      split at k
      · next hl =>
        intro cls d G' H' s' q
        obtain ⟨dd, v, a1, a2, a3, a4⟩ := q
        exact k cls d (tupV G1 H') H' (s1.trans (Stp.tups s1.s (sHh.trans s'.h))) ⟨dd, v, a1, a2, a3, Rp.lf s'.s a4 hl⟩
      · exact k.elim
    | ok fs =>
      rw [ep] at k
      have k : EPost c (rlO c) W σ G H Q (if lfAll fs = true then .ok fs else .bad) := k
      split at k
      · next hl =>
        intro us dx G' H' s' gx hx' hlen q
        refine ⟨rfl, ?_⟩
        have st := Stp.tups s1.s (sHh.trans s'.h)
        have tx : tupV G1 H' x = none := by unfold tupV; rw [hx']; exact g1
        have sh := Stp.show (o := .ins c.C dx (nmB.zip us)) st.s hx' tx
        have st2 : Stp G1 H1 (upd (tupV G1 H') x (.ins c.C dx (nmB.zip us))) H' := ⟨st.g.trans sh.1, st.h, sh.2, fun a o e m n => by
          rw [upd_ne (ne_of_none e hx)]
          exact st.k a o e m n⟩
        exact k _ _ H' (s1.trans st2) ⟨x, dx, us, rfl, upd_same, hlen, (RpAll.lf s'.s q hl).mono sh.1⟩
      · exact k.elim
theorem rep_startI {G H : Hp} {vs : List V} {as : List SV} {N : List Str} {n : Nat} {x dx : Addr} (s : Same G H) (hx : H x = some (.ins c.C dx [])) (gx : G x = none) (h : Paired (ArgRep c G) vs as) (hn : as.length + 1 = n) (hN : n ≤ N.length) :
    Rep c G (hide H x) (.oins x [] :: as ++ List.replicate (N.length - n) .un) (L2.start N (.ref x :: vs)) G H := by
  have hl := Paired.length h
  have sh : Same G (hide H x) := fun a o e => by rw [hide_ne (ne_of_none e gx)]; exact s _ _ e
  have inA : ∀ (i : Nat) (t : SV), (SV.oins x [] :: as ++ List.replicate (N.length - n) SV.un)[i]? = some t → (i = 0 ∧ t = .oins x []) ∨ (∃ v, (L2.start N (.ref x :: vs))[i]? = some (some v) ∧ ArgRep c G v t) ∨ t = .un := by
    intro i t e
    cases i with
    | zero => exact .inl ⟨rfl, by simpa using e.symm⟩
    | succ i =>
      refine .inr ?_
      have e : (as ++ List.replicate (N.length - n) SV.un)[i]? = some t := by simpa using e
      by_cases hi : i < as.length
      · rw [List.getElem?_append_left hi] at e
        obtain ⟨v, h1, h2⟩ := paired_get h e
        refine .inl ⟨v, ?_, h2⟩
        unfold L2.start
        rw [List.getElem?_append_left (by simp; omega), List.getElem?_map]
        show ((V.ref x :: vs)[i + 1]?).map some = _
        rw [List.getElem?_cons_succ, h1]
        rfl
      · rw [List.getElem?_append_right (by omega), List.getElem?_replicate] at e
        split at e
        · cases e; exact .inr rfl
        · cases e
  have noO : ∀ i p, OwnsAt (.oins x [] :: as ++ List.replicate (N.length - n) SV.un) (L2.start N (.ref x :: vs)) i p → i = 0 := by
    rintro i p ⟨⟨t, e, ht⟩, _⟩
    rcases inA i t e with ⟨h0, _⟩ | ⟨v, _, h2⟩ | h2
    · exact h0
    · cases t with
      | own x => exact h2.elim
      | oins a x => exact h2.elim
      | jnk => exact h2.elim
      | _ => cases ht
    · rw [h2] at ht; cases ht
  refine ⟨hide_back sh gx, ?_, fun i t e => ?_, fun i j p a b => by rw [noO i p a, noO j p b], fun i y e => ?_⟩
  · unfold L2.start
    simp
    omega
  · rcases inA i t e with ⟨h0, rfl⟩ | ⟨v, h1, h2⟩ | h2
    · subst h0
      exact ⟨dx, [], rfl, hide_same, gx, hx, Nat.zero_le _, .nil⟩
    · rw [h1]
      cases t with
      | d x => exact ⟨v, rfl, h2⟩
      | ins x => exact ⟨v, rfl, h2⟩
      | scr x => exact ⟨v, rfl, h2⟩
      | un => trivial
      | fre x => trivial
      | own x => exact h2.elim
      | oins a x => exact h2.elim
      | jnk => exact h2.elim
    · rw [h2]; trivial
  · rcases inA i _ e with ⟨_, h0⟩ | ⟨v, h1, h2⟩ | h2
    · cases h0
    · exact h2.elim
    · cases h2
theorem fn_simI {P : Program} {w : World} {K : PySem.W.Frag} {mg : Str → Option Value} {base : Heap} {x qual : Str} {st : Stmt} {f : Addr} {fd : FuncData} {N ps : List Str} {k : Nat} {p : List SV → Fl} {pf : List SV → R (List PyData)} (F : Fun K x qual st f fd) (S : FnScope N ps (defScope st))
    (hpf : ∀ a as, runI ps.length N.length p a as = pf as)
    (hb : ∀ (cdv : Value) (A : Around) (outer : List Env) (s : Shared) (H : Hp) (E : XK), Room k (A.deeper (envOfC qual (defScope st) s.heap.objs.size f cdv)) →
      ∃ t, PSs (cxOf (L2.CX P w) P w K mg base N qual (defScope st) f cdv A outer s H E) (defBody st) t ∧ SimS c t p (fun cls d _ H => E cls d H)) :
    FnOk P w K mg base (L2.CX P w) (k + 1) f fd ps (spI c pf) := by
  have hpl : ps.length ≤ N.length := by have := congrArg List.length S.pre; rw [List.length_take] at this; omega
  have len : ∀ vs H Q E, spI c pf vs H Q E → vs.length = ps.length := by
    rintro vs H Q E ⟨x, dx, ws, G, as, rfl, _, _, _, pr, post⟩
    rw [← hpf x as] at post
    unfold runI at post
    split at post
    · next h => show ws.length + 1 = _; rw [Paired.length pr]; exact h
    · exact post.elim
  refine F.okX S len fun cdv A outer s H vs Q E hr h => ?_
  obtain ⟨t, h1, h2⟩ := hb cdv A outer s H E hr
  obtain ⟨x, dx, ws, G, as, rfl, hx, gx, sg, pr, post⟩ := h
  rw [← hpf x as] at post
  unfold runI at post
  split at post
  · next hn =>
    refine ⟨t, h1, h2 G (hide H x) _ _ G H _ (rep_startI sg hx gx pr hn hpl) ?_⟩
    cases e : p (.oins x [] :: as ++ List.replicate (N.length - ps.length) .un) with
    | nx ρ' =>
      rw [e] at post
      intro σ' G' H' r
      cases ρ' with
      | nil => exact post.elim
      | cons s0 ρ' =>
        cases s0 with
        | oins b fs =>
          have post : IPost c x G H Q E (if b = x ∧ fs.length = nmB.length then .ok fs else .bad) := post
          split at post
          · next hb =>
            obtain ⟨hb1, hb2⟩ := hb
            subst hb1
            obtain ⟨dx', us, a1, a2, a3, a4, a5, a6⟩ := r.oins (i := 0) rfl
            exact post us dx' G' H' r.st a3 a4 (by rw [a6.length]; exact hb2) a6
          · exact post.elim
        | _ => exact post.elim
    | rt d => rw [e] at post; exact post.elim
    | xc n x ρ' => rw [e] at post; exact fun cls d σ' G' H' r xr => post cls d G' H' r.st xr
    | bk ρ' => rw [e] at post; exact post.elim
    | ct ρ' => rw [e] at post; exact post.elim
    | bad => rw [e] at post; exact post.elim
  · exact post.elim

/-! ### raising, catching -/
def qRaise (n : Nat) (pe : List SV → R PyData) : List SV → Fl := fun ρ => bFl (pe ρ) ρ fun x => .xc n x ρ
def qTry (n i j : Nat) (q : List SV → Fl) : List SV → Fl := fun ρ => match q ρ with
  | .xc m x ρ' => if m = n ∧ i < ρ'.length then .nx (((ρ'.set i .un).set j (.d x)).set i .un) else .bad
  | o => o
theorem ss_raise0 (n : Nat) {te : TE} {pe : List SV → R PyData} {C : Addr} {fn : Str} (hc : c.ec n = (C, fn)) (h : Sim c rlE te pe W) :
    SimS c (fun _ σ H => (fun σ H (Q : XK) => tCons te tNil σ H fun vs H1 => ∃ v, vs = [v] ∧ ∀ d, H1 d = none → Q (.ref C) (some d) (upd H1 d (.xd [(fn, v)]))) σ H fun cls d H' => W cls d σ H') (qRaise n pe) W := fun Ge He ρ σ G H D r k =>
  eval_s (Q := fun x H1 => ∃ v, [x] = [v] ∧ ∀ d, H1 d = none → W (.ref C) (some d) σ (upd H1 d (.xd [(fn, v)]))) h r k fun a k v G' H' s q => ⟨v, rfl, fun d hd => by
    have st := Stp.hid (o := .xd [(fn, v)]) s.s hd
    refine k _ _ σ G' _ ((r.mono s).mono st) ⟨d, v, ?_, rfl, ?_, q⟩
    · rw [hc]
    · rw [hc]; exact upd_same⟩
theorem ss_try0 (n i j : Nat) {K : PySem.W.Frag} {C : Addr} {fn : Str} {tb : WX → TS} {q : List SV → Fl} (hc : c.ec n = (C, fn)) (te : PySem.W.exmOne K (.ref C) (.ref C) = some true) (hb : ∀ W', SimS c (tb W') q W') :
    SimS c (fun D σ H => tb (wAs K (.ref C) i (fun a cls d => tAsg (fun σ H Q => tVar i σ H fun x H1 => x = .ref a ∧ cls = .ref C ∧ ∃ (dd : Addr) (v : V), d = some dd ∧ H1 dd = some (.xd [(fn, v)]) ∧ Q v H1) (gName j)) W D) D σ H) (qTry n i j q) W := fun Ge He ρ σ G H D r k => by
  refine hb _ _ _ _ _ _ _ D r ?_
  unfold qTry at k
  cases e : q ρ with
  | nx ρ' => rw [e] at k; exact k
  | rt d => rw [e] at k; exact k
  | bk ρ' => rw [e] at k; exact k
  | ct ρ' => rw [e] at k; exact k
  | bad => rw [e] at k; exact k
  | xc m x ρ' =>
    rw [e] at k
    replace k : Post c Ge He D W (if m = n ∧ i < ρ'.length then .nx (((ρ'.set i .un).set j (.d x)).set i .un) else .bad) := k
    split at k
    · next hm =>
      obtain ⟨rfl, hlt⟩ := hm
      rintro cls d σ' G' H' r' ⟨dd, v, rfl, rfl, h3, h4⟩
      rw [hc] at h3 ⊢
      refine ⟨true, te, fun _ a ha => ?_, fun z => by cases z⟩
      refine ⟨.ref a, List.getElem?_set_self (by rw [← r'.len]; exact hlt), rfl, rfl, dd, v, rfl, h3, ?_⟩
      exact k _ G' H' (((r'.set (i := i) (s := .un) (o := some (.ref a)) rfl rfl trivial).set (i := j) (s := .d x) rfl rfl ⟨v, rfl, h4⟩).forget)
    · exact k.elim

/-! ### slices -/
def fCut (xs : List PyData) (lo hi : Option Int) : List PyData := (xs.drop (HT.sIx xs.length 0 lo)).take (HT.sIx xs.length xs.length hi - HT.sIx xs.length 0 lo)
def PPst (c : Cf) (W : WX) (σ : L2.St) (G H : Hp) (Q : Option Int → Hp → Prop) : R (Option Int) → Prop
  | .ok b => ∀ G' H', Stp G H G' H' → Q b H'
  | .exc n x => ∀ cls d G' H', Stp G H G' H' → XRep c n x cls d G' H' → W cls d σ H'
  | .bad => False
def SimP (c : Cf) (tt : TO) (p : List SV → R (Option Int)) (W : WX) : Prop :=
  ∀ Ge He ρ σ G H, Rep c Ge He ρ σ G H → ∀ Q : Option Int → Hp → Prop, PPst c W σ G H Q (p ρ) → tt σ H Q
def pPart (pe : List SV → R PyData) : List SV → R (Option Int) := fun ρ => (pe ρ).bind fun d => match d with
  | .int i => .ok (some i)
  | _ => .bad
def pNoPart : List SV → R (Option Int) := fun _ => .ok none
theorem sp_none : SimP c tNoPart pNoPart W := fun Ge He ρ σ G H r Q k => k G H (Stp.refl r.st.s)
theorem sp_some {te : TE} {pe : List SV → R PyData} (h : Sim c rlE te pe W) : SimP c (tPart te) (pPart pe) W := fun Ge He ρ σ G H r Q k => by
  refine h _ _ _ _ _ _ r _ ?_
  unfold pPart at k
  cases e : pe ρ with
  | ok a =>
    rw [e] at k
    intro v G' H' s q
    cases q with
    | int i => exact ⟨i, rfl, k G' H' s⟩
    | _ => exact k.elim
  | exc n x => rw [e] at k; exact k
  | bad => rw [e] at k; exact k
def pSl {α : Type} (f : α → Option Int → Option Int → Option (List PyData)) (pv : List SV → R α) (pl ph : List SV → R (Option Int)) : List SV → R (List PyData) := fun ρ =>
  (pv ρ).bind fun x => (pl ρ).bind fun lo => (ph ρ).bind fun hi => R.of (f x lo hi)
theorem PPst.step {σ : L2.St} {G H G' H' : Hp} {Q : Option Int → Hp → Prop} {r : R (Option Int)} (e : Stp G H G' H') (h : PPst c W σ G H Q r) : PPst c W σ G' H' Q r := by
  cases r with
  | ok a => exact fun G2 H2 e2 => h G2 H2 (e.trans e2)
  | exc n x => exact fun cls d G2 H2 e2 q => h cls d G2 H2 (e.trans e2) q
  | bad => exact h
theorem sim_sl0 {α : Type} {rl : Rl α} {f : α → Option Int → Option Int → Option (List PyData)} {rs : V → Option Int → Option Int → Hp → VK → Prop} {te : TE} {tl th : TO} {pv : List SV → R α} {pl ph : List SV → R (Option Int)} (m : Mono rl)
    (hs : ∀ G H x a lo hi z, Same G H → rl G H x a → f a lo hi = some z → ∀ Q : VK, (∀ p vs G' H', H p = none → Stp G H G' H' → G' p = none → H' p = some (.lst vs) → RpAll G' vs z → Q (.ref p) H') → rs x lo hi H Q)
    (h : Sim c rl te pv W) (h1 : SimP c tl pl W) (h2 : SimP c th ph W) : SimN c (tSl rs te tl th) (pSl f pv pl ph) W := fun Ge He ρ σ G H r Q k => by
  refine h _ _ _ _ _ _ r _ ?_
  unfold pSl at k
  cases e : pv ρ with
  | exc n x => rw [e] at k; exact k
  | bad => rw [e] at k; exact k
  | ok a =>
    rw [e] at k
    have k : NPost c W σ G H Q ((pl ρ).bind fun lo => (ph ρ).bind fun hi => R.of (f a lo hi)) := k
    intro v G1 H1 s1 q1
    have k := NPost.step s1 k
    refine h1 _ _ _ _ _ _ (r.mono s1) _ ?_
    cases e1 : pl ρ with
    | exc n x => rw [e1] at k; exact k
    | bad => rw [e1] at k; exact k
    | ok lo =>
      rw [e1] at k
      have k : NPost c W σ G1 H1 Q ((ph ρ).bind fun hi => R.of (f a lo hi)) := k
      intro G2 H2 s2
      have k := NPost.step s2 k
      refine h2 _ _ _ _ _ _ ((r.mono s1).mono s2) _ ?_
      cases e2 : ph ρ with
      | exc n x => rw [e2] at k; exact k
      | bad => rw [e2] at k; exact k
      | ok hi =>
        rw [e2] at k
        have k : NPost c W σ G2 H2 Q (R.of (f a lo hi)) := k
        intro G3 H3 s3
        have k := NPost.step s3 k
        cases e3 : f a lo hi with
        | none => rw [e3] at k; exact k.elim
        | some z =>
          rw [e3] at k
          exact hs G3 H3 v a lo hi z s3.s (m _ _ _ _ _ _ s3 (m _ _ _ _ _ _ s2 q1)) e3 Q k
def fSlL : Bool × List PyData → Option Int → Option Int → Option (List PyData) := fun x lo hi => if x.1 = true then none else some (fCut x.2 lo hi)
def fSlS : List Int → Option Int → Option Int → Option (List PyData) := fun ns lo hi => some (fCut (ns.map .int) lo hi)
theorem cut_rp {G : Hp} {vs : List V} {ds : List PyData} {lo hi : Option Int} (h : RpAll G vs ds) : RpAll G (cutV vs lo hi) (fCut ds lo hi) := by
  unfold cutV fCut
  rw [h.length]
  exact (h.drop _).take _
theorem sim_slL {K : PySem.W.Frag} {te : TE} {tl th : TO} {pv : List SV → R (Bool × List PyData)} {pl ph : List SV → R (Option Int)} (h : Sim c rlV te pv W) (h1 : SimP c tl pl W) (h2 : SimP c th ph W) : SimN c (tSl (rSlL K) te tl th) (pSl fSlL pv pl ph) W :=
  sim_sl0 mono_V (fun G H x a lo hi z s q e Q k => by
    obtain ⟨p, vs, rfl, q1, q2⟩ := q
    unfold fSlL at e
    split at e
    · cases e
    · next hb =>
      cases e
      rw [if_neg hb] at q1
      refine ⟨p, vs, rfl, SqL.of q1, fun l hl => ?_⟩
      exact k l _ G _ hl (Stp.hid s hl) (Same.free s hl) upd_same (cut_rp q2)) h h1 h2
theorem sim_slS {K : PySem.W.Frag} {te : TE} {tl th : TO} {pv : List SV → R (List Int)} {pl ph : List SV → R (Option Int)} (hK : c.K = K) (h : Sim c (rlS c) te pv W) (h1 : SimP c tl pl W) (h2 : SimP c th ph W) : SimN c (tSl (rSlL K) te tl th) (pSl fSlS pv pl ph) W :=
  sim_sl0 mono_S (fun G H x a lo hi z s q e Q k => by
    obtain ⟨p, rfl, q1⟩ := q
    cases e
    rw [hK] at q1
    refine ⟨p, a.map V.int, rfl, s.seq q1, fun l hl => ?_⟩
    exact k l _ G _ hl (Stp.hid s hl) (Same.free s hl) upd_same (cut_rp (RpAll.ints a))) h h1 h2
/-- a < b < c -/
def chK (f' : PyData → PyData → Option PyData) (pc : List SV → R PyData) (ρ : List SV) (b : PyData) : PyData → R PyData
  | .bool true => (pc ρ).bind fun d => R.of (f' b d)
  | .bool false => .ok (.bool false)
  | _ => .bad
def pChain (f f' : PyData → PyData → Option PyData) (pa pb pc : List SV → R PyData) : List SV → R PyData := fun ρ => (pa ρ).bind fun a => (pb ρ).bind fun b => (R.of (f a b)).bind (chK f' pc ρ b)
theorem sim_chain {r1 r2 : R2} {f f' : PyData → PyData → Option PyData} {ta tb tc : TE} {pa pb pc : List SV → R PyData} (o1 : OpS rlE rlE rlE r1 f) (o2 : OpS rlE rlE rlE r2 f') (ha : Sim c rlE ta pa W) (hb : Sim c rlE tb pb W) (hc : Sim c rlE tc pc W) :
    Sim c rlE (tChain r1 r2 ta tb tc) (pChain f f' pa pb pc) W := fun Ge He ρ σ G H r Q k => by
  refine ha _ _ _ _ _ _ r _ ?_
  refine EPost.bind (rl' := rlE) (k := fun a => (pb ρ).bind fun b => (R.of (f a b)).bind (chK f' pc ρ b)) k fun a ea k1 v G1 H1 s1 q1 => ?_
  refine hb _ _ _ _ _ _ (r.mono s1) _ ?_
  refine EPost.bind (rl' := rlE) (k := fun b => (R.of (f a b)).bind (chK f' pc ρ b)) (k1.step s1) fun b eb k2 w G2 H2 s2 q2 => ?_
  cases e : f a b with
  | none => rw [e] at k2; exact k2.elim
  | some z =>
    rw [e] at k2
    refine o1 G2 H2 v w a b z s2.s (mono_E _ _ _ _ _ _ s2 q1) q2 e _ fun u G3 H3 s3 q3 => ?_
    replace k2 : EPost c rlE W σ G1 H1 Q (chK f' pc ρ b z) := k2
    have k3 := (k2.step s2).step s3
    cases z with
    | bool t =>
      have := Rp.ofBool q3
      subst this
      refine ⟨t, rfl, ?_⟩
      cases t with
      | true =>
        show tc σ H3 _
        refine hc _ _ _ _ _ _ (((r.mono s1).mono s2).mono s3) _ ?_
        refine EPost.bind (rl' := rlE) (k := fun d => R.of (f' b d)) k3 fun d ed k4 x G4 H4 s4 q4 => ?_
        cases e4 : f' b d with
        | none => rw [e4] at k4; exact k4.elim
        | some y =>
          rw [e4] at k4
          exact o2 G4 H4 w x b d y s4.s (mono_E _ _ _ _ _ _ s4 (mono_E _ _ _ _ _ _ s3 q2)) q4 e4 Q fun v' G' H' s5 q5 => k4 v' G' H' (s4.trans s5) q5
      | false =>
        show Q (.bl false) H3
        exact k3 _ G3 H3 (Stp.refl s3.s) (.bl _)
    | _ => exact k3.elim
end
end Sm

set_option Elab.async false
set_option linter.all false
set_option maxRecDepth 100000
set_option maxHeartbeats 2000000
/-! Sm8: the rules by name. -/
namespace Sm
open PySem PySem.Spec PyProof.Rows L2

structure XE {α : Type} (X : Cx) (c : Cf) (W : WX) (rl : Rl α) (e : Expr) (te : TE) (p : List SV → R α) : Prop where
  pe : PE X e te
  sim : Sim c rl te p W
structure XN (X : Cx) (c : Cf) (W : WX) (e : Expr) (te : TE) (p : List SV → R (List PyData)) : Prop where
  pe : PE X e te
  sim : SimN c te p W
structure XA (X : Cx) (c : Cf) (W : WX) (raw : Bool) (es : List Expr) (ta : TA) (p : List SV → R (List SV)) : Prop where
  pa : PA X es ta
  sim : SimA c raw ta p W
structure XT (X : Cx) (c : Cf) (W : WX) (e : Expr) (tt : TT) (p : List SV → R Bool) : Prop where
  pt : PT X e tt
  sim : SimT c tt p W
structure XW (X : Cx) (c : Cf) (W : WX) (e : Expr) (tt : TT) (p : List SV → R Bool) : Prop where
  pw : PW X e tt
  sim : SimT c tt p W
structure XTs (X : Cx) (c : Cf) (W : WX) (es : List Expr) (tt : TT) (p : List SV → R Bool) : Prop where
  pts : PTs X es tt
  sim : SimT c tt p W
structure XI (X : Cx) (c : Cf) (W : WX) (tg e : Expr) (wi : TI) (p : List SV → R (List PyData)) : Prop where
  pi : PI X tg e wi
  sim : SimI c wi p W
structure XG (X : Cx) (c : Cf) (tg : Expr) (g : TG) (pg : PyData → List SV → Option (List SV)) (ts : List Nat) : Prop where
  pgt : PG X tg g
  sim : SimG c g pg ts
structure XP (X : Cx) (c : Cf) (W : WX) (e : Option Expr) (t : TO) (p : List SV → R (Option Int)) : Prop where
  po : PO X e t
  sim : SimP c t p W
structure XS (X : Cx) (c : Cf) (W : WX) (st : Stmt) (t : TS) (p : List SV → Fl) : Prop where
  ps : PS X st t
  sim : SimS c t p W
structure XB (X : Cx) (c : Cf) (W : WX) (st : List Stmt) (t : TS) (p : List SV → Fl) : Prop where
  ps : PSs X st t
  sim : SimS c t p W

/-- the built-ins' names are the built-ins -/
structure Bt (mg : Str → Option Value) : Prop where
  len : mg "len" = none
  range : mg "range" = none
  max : mg "max" = none
  min : mg "min" = none
  isinstance : mg "isinstance" = none
  tuple : mg "tuple" = none
  list : mg "list" = none
  int : mg "int" = none
  bool : mg "bool" = none
  abs : mg "abs" = none
  enumerate : mg "enumerate" = none
  sum : mg "sum" = none
theorem bb_len : bootBuiltins ("len" : Str) = some (.builtin "len") := by decide +kernel
theorem bb_max : bootBuiltins ("max" : Str) = some (.builtin "max") := by decide +kernel
theorem bb_min : bootBuiltins ("min" : Str) = some (.builtin "min") := by decide +kernel
theorem bb_isinstance : bootBuiltins ("isinstance" : Str) = some (.builtin "isinstance") := by decide +kernel
theorem bb_abs : bootBuiltins ("abs" : Str) = some (.builtin "abs") := by decide +kernel
theorem bb_sum : bootBuiltins ("sum" : Str) = some (.builtin "sum") := by decide +kernel
theorem bb_tuple : bootBuiltins ("tuple" : Str) = some (.type "tuple") := by decide +kernel
theorem bb_list : bootBuiltins ("list" : Str) = some (.type "list") := by decide +kernel
theorem bb_int : bootBuiltins ("int" : Str) = some (.type "int") := by decide +kernel
theorem bb_bool : bootBuiltins ("bool" : Str) = some (.type "bool") := by decide +kernel

section
variable {X : Cx} {c : Cf} {W : WX} {e ea eb ec : Expr} {es : List Expr} {te ta tb tc : TE} {i : Nat} {pos p' : Pos} {α β γ : Type}
/-! ### names, constants -/
theorem x_var (h : PE X e (tVar i)) : XE X c W rlE e (tVar i) (pV i) := ⟨h, sim_var i⟩
theorem x_raw (h : PE X e (tVar i)) : XE X c W rlR e (tVar i) (pRaw i) := ⟨h, sim_raw i⟩
theorem x_sq (h : PE X e (tVar i)) : XE X c W rlV e (tVar i) (pSq i) := ⟨h, sim_sq i⟩
theorem x_obj (h : PE X e (tVar i)) : XE X c W (rlO c) e (tVar i) (pObj i) := ⟨h, sim_obj i⟩
theorem x_scr (h : PE X e (tVar i)) : XE X c W (rlS c) e (tVar i) (pScr i) := ⟨h, sim_scr i⟩
theorem x_arg (h : PE X e (tVar i)) : XE X c W (rlG c) e (tVar i) (pArg i) := ⟨h, sim_arg i⟩
theorem x_argR (h : PE X e (tVar i)) : XE X c W (rlGR c) e (tVar i) (pArgR i) := ⟨h, sim_argR i⟩
theorem x_int {i : Int} {j} : XE X c W rlE (.Constant (.int i) j pos) (tC (.int i)) (pK (.int i)) := ⟨pe_int, sim_int i⟩
theorem x_bl {i : Bool} {j} : XE X c W rlE (.Constant (.bool i) j pos) (tC (.bl i)) (pK (.bool i)) := ⟨pe_bl, sim_bl i⟩
theorem x_str {i : Str} {j} : XE X c W rlE (.Constant (.str i) j pos) (tC (.str i)) (pK (.str i)) := ⟨pe_str, sim_str i⟩
theorem x_non {j} : XE X c W rlE (.Constant .none j pos) (tC .non) (pK .none) := ⟨pe_non, sim_non⟩
theorem x_cint {i : Int} (h : PE X e (tC (.int i))) : XE X c W rlE e (tC (.int i)) (pK (.int i)) := ⟨h, sim_int i⟩
theorem x_cglob {x : Str} {i : Int} (h : ∃ t, X.mg x = some (.int i t)) (hg : Gl X x := by rfl) (hd : (x == ("__debug__" : Str)) = false := by decide) : XE X c W rlE (.Name x pos) (tC (.int i)) (pK (.int i)) := by
  obtain ⟨t, h⟩ := h
  exact ⟨pe_glob hg h ⟨_, rfl⟩ hd, sim_int i⟩
theorem x_r {p : List SV → R PyData} (h : XE X c W rlE e te p) : XE X c W rlR e te p := ⟨h.pe, sim_r h.sim⟩
theorem x_v {p : List SV → R PyData} (h : XE X c W rlE e te p) : XE X c W rlV e te (pSeqOf p) := ⟨h.pe, sim_v h.sim⟩
theorem x_g {p : List SV → R PyData} (h : XE X c W rlE e te p) : XE X c W (rlG c) e te (pD p) := ⟨h.pe, sim_g h.sim⟩
theorem x_gr {p : List SV → R PyData} (h : XE X c W rlE e te p) : XE X c W (rlGR c) e te (pD p) := ⟨h.pe, sim_gr (sim_r h.sim)⟩
theorem x_n {p : List SV → R (List PyData)} (h : XN X c W e te p) : XE X c W rlE e te (pList p) := ⟨h.pe, sim_n h.sim⟩

/-! ### operators -/
theorem x_bin {rlA : Rl α} {rlB : Rl β} {rl : Rl γ} {op : Operator} {r2 : R2} {f : α → β → Option γ} {pa : List SV → R α} {pb : List SV → R β} (ho : OpR X (binaryOp op) r2) (os : OpS rlA rlB rl r2 f) (m : Mono rlA)
    (a : XE X c W rlA ea ta pa) (b : XE X c W rlB eb tb pb) : XE X c W rl (.BinOp ea op eb pos) (tOp r2 ta tb) (p2 f pa pb) := ⟨pe_op ho a.pe b.pe, sim_op os m a.sim b.sim⟩
theorem x_cmp {rlA : Rl α} {rlB : Rl β} {rl : Rl γ} {op : CmpOp} {r2 : R2} {f : α → β → Option γ} {pa : List SV → R α} {pb : List SV → R β} (ho : OpR X (compareOp op) r2) (os : OpS rlA rlB rl r2 f) (m : Mono rlA)
    (a : XE X c W rlA ea ta pa) (b : XE X c W rlB eb tb pb) (hm : behindInMarks op eb = false) : XE X c W rl (.Compare ea [op] [eb] pos) (tOp r2 ta tb) (p2 f pa pb) := ⟨pe_cmpR ho a.pe b.pe hm, sim_op os m a.sim b.sim⟩
theorem t_cmp {rlA : Rl α} {rlB : Rl β} {op : CmpOp} {r2 : R2} {f : α → β → Option PyData} {pa : List SV → R α} {pb : List SV → R β} (ho : OpR X (compareOp op) r2) (os : OpS rlA rlB rlE r2 f) (m : Mono rlA)
    (a : XE X c W rlA ea ta pa) (b : XE X c W rlB eb tb pb) (hm : behindInMarks op eb = false) : XT X c W (.Compare ea [op] [eb] pos) (tTest (tOp r2 ta tb)) (pTest (p2 f pa pb)) := ⟨pt_cmpR ho a.pe b.pe hm, simT_test (sim_op os m a.sim b.sim)⟩
theorem x_chain {op op' : CmpOp} {r1 r2 : R2} {f f' : PyData → PyData → Option PyData} {pa pb pc : List SV → R PyData} (ho : OpR X (compareOp op) r1) (ho' : OpR X (compareOp op') r2) (o1 : OpS rlE rlE rlE r1 f) (o2 : OpS rlE rlE rlE r2 f')
    (a : XE X c W rlE ea ta pa) (b : XE X c W rlE eb tb pb) (d : XE X c W rlE ec tc pc) (hm : lastMarks [op, op'] [eb, ec] = false := by with_unfolding_all rfl) : XE X c W rlE (.Compare ea [op, op'] [eb, ec] pos) (tChain r1 r2 ta tb tc) (pChain f f' pa pb pc) :=
  ⟨pe_chain ho ho' a.pe b.pe d.pe hm, sim_chain o1 o2 a.sim b.sim d.sim⟩
theorem t_chain {op op' : CmpOp} {r1 r2 : R2} {f f' : PyData → PyData → Option PyData} {pa pb pc : List SV → R PyData} (ho : OpR X (compareOp op) r1) (ho' : OpR X (compareOp op') r2) (o1 : OpS rlE rlE rlE r1 f) (o2 : OpS rlE rlE rlE r2 f')
    (a : XE X c W rlE ea ta pa) (b : XE X c W rlE eb tb pb) (d : XE X c W rlE ec tc pc) (hm : lastMarks [op, op'] [eb, ec] = false := by with_unfolding_all rfl) : XT X c W (.Compare ea [op, op'] [eb, ec] pos) (tTest (tChain r1 r2 ta tb tc)) (pTest (pChain f f' pa pb pc)) :=
  ⟨pt_chain ho ho' a.pe b.pe d.pe hm, simT_test (sim_chain o1 o2 a.sim b.sim d.sim)⟩
theorem x_neg {pa : List SV → R PyData} (a : XE X c W rlE ea ta pa) : XE X c W rlE (.UnaryOp .USub ea pos) (tUn (rU fun i => .int (-i)) ta) (p1 fNeg pa) := ⟨pe_un un_neg a.pe, sim_un us_neg a.sim⟩
theorem x_not {pa : List SV → R PyData} (a : XE X c W rlE ea ta pa) : XE X c W rlE (.UnaryOp .Not ea pos) (tNotV ta) (pNotV pa) := ⟨pe_not a.pe, sim_notV a.sim⟩
theorem x_one {op} {pa : List SV → R PyData} (a : XE X c W rlE ea ta pa) : XE X c W rlE (.BoolOp op [ea] pos) ta pa := ⟨pe_one a.pe, a.sim⟩
theorem x_and {pa pb : List SV → R PyData} (a : XE X c W rlE ea ta pa) (b : XE X c W rlE (.BoolOp .And (eb :: es) pos) tb pb) : XE X c W rlE (.BoolOp .And (ea :: eb :: es) pos) (tAndV ta tb) (pAndV pa pb) := ⟨pe_and a.pe b.pe, sim_andV a.sim b.sim⟩
theorem x_or {pa pb : List SV → R PyData} (a : XE X c W rlE ea ta pa) (b : XE X c W rlE (.BoolOp .Or (eb :: es) pos) tb pb) : XE X c W rlE (.BoolOp .Or (ea :: eb :: es) pos) (tOrV ta tb) (pOrV pa pb) := ⟨pe_or a.pe b.pe, sim_orV a.sim b.sim⟩
theorem x_if {rl : Rl α} {tt : TT} {pc : List SV → R Bool} {pa pb : List SV → R α} (t : XT X c W ec tt pc) (a : XE X c W rl ea ta pa) (b : XE X c W rl eb tb pb) : XE X c W rl (.IfExp ec ea eb pos) (tIf tt ta tb) (pIf pc pa pb) := ⟨pe_ifExp t.pt a.pe b.pe, sim_if t.sim a.sim b.sim⟩

/-! ### tests -/
theorem t_val {pa : List SV → R PyData} (a : XE X c W rlE ea ta pa) (he : ∀ whole, isTrue ea X.env whole = (do let v ← whole; standAt ea.pos; holding [v] (truthy v)) := by intro _; rfl) : XT X c W ea (tB ta) (pTest pa) := ⟨pt_val a.pe he, simT_B a.sim⟩
theorem t_not {tt : TT} {pa : List SV → R Bool} (a : XT X c W ea tt pa) : XT X c W (.UnaryOp .Not ea pos) (tNot tt) (pNotT pa) := ⟨pt_not a.pt, simT_not a.sim⟩
theorem t_pw {tt : TT} {pa : List SV → R Bool} (a : XW X c W ea tt pa) : XT X c W ea tt pa := ⟨a.pw.pt, a.sim⟩
theorem w_and1 {tt : TT} {pa : List SV → R Bool} (a : XT X c W ea tt pa) : XW X c W (.BoolOp .And [ea] pos) tt pa := ⟨pw_and1 a.pt, a.sim⟩
theorem w_or1 {tt : TT} {pa : List SV → R Bool} (a : XT X c W ea tt pa) : XW X c W (.BoolOp .Or [ea] pos) tt pa := ⟨pw_or1 a.pt, a.sim⟩
theorem w_and {t u : TT} {pa pb : List SV → R Bool} (a : XT X c W ea t pa) (b : XW X c W (.BoolOp .And (eb :: es) pos) u pb) : XW X c W (.BoolOp .And (ea :: eb :: es) pos) (tAnd t u) (pAndT pa pb) := ⟨pw_and a.pt b.pw, simT_and a.sim b.sim⟩
theorem w_or {t u : TT} {pa pb : List SV → R Bool} (a : XT X c W ea t pa) (b : XW X c W (.BoolOp .Or (eb :: es) pos) u pb) : XW X c W (.BoolOp .Or (ea :: eb :: es) pos) (tOr t u) (pOrT pa pb) := ⟨pw_or a.pt b.pw, simT_or a.sim b.sim⟩
theorem ts_nil : XTs X c W [] tYes (pK true) := ⟨pts_nil, simT_yes⟩
theorem ts_one {tt : TT} {pa : List SV → R Bool} (a : XT X c W ea tt pa) : XTs X c W [ea] tt pa := ⟨pts_one a.pt, a.sim⟩

/-! ### lists of expressions, displays, subscripts -/
theorem a_nil {raw : Bool} : XA X c W raw [] tNil pNil := ⟨pa_nil, simA_nil⟩
theorem a_cons {ta : TE} {tr : TA} {p : List SV → R SV} {q : List SV → R (List SV)} (a : XE X c W (rlG c) ea ta p) (b : XA X c W false es tr q) (hs : starEach (ea :: es) X.env = (false, eval ea X.env) :: starEach es X.env := by rfl) : XA X c W false (ea :: es) (tCons ta tr) (pCons p q) := ⟨pa_cons a.pe b.pa hs, simA_cons a.sim b.sim⟩
theorem a_consR {ta : TE} {tr : TA} {p : List SV → R SV} {q : List SV → R (List SV)} (a : XE X c W (rlGR c) ea ta p) (b : XA X c W true es tr q) (hs : starEach (ea :: es) X.env = (false, eval ea X.env) :: starEach es X.env := by rfl) : XA X c W true (ea :: es) (tCons ta tr) (pCons p q) := ⟨pa_cons a.pe b.pa hs, simA_consR a.sim b.sim⟩
theorem x_tup {k : Nat} {ta : TA} {p : List SV → R (List SV)} (a : XA X c W false es ta p) : XE X c W rlE (.Tuple es k pos) (tTup ta) (pTup p) := ⟨pe_tup a.pa, sim_tup a.sim⟩
theorem n_lst {ta : TA} {p : List SV → R (List SV)} (a : XA X c W false es ta p) : XN X c W (.List es pos) (tLst ta) (pLst p) := ⟨pe_lst a.pa, sim_lst a.sim⟩
theorem x_ix {pa : List SV → R (Bool × List PyData)} {pb : List SV → R PyData} (a : XE X c W rlV ea ta pa) (b : XE X c W rlE eb tb pb) (hs : PlainIx eb := by exact fun _ _ => rfl) : XE X c W rlE (.Subscript ea eb pos) (tOp (rIx X.K) ta tb) (p2 fIx pa pb) := ⟨pe_ix ix_seq a.pe b.pe hs, sim_op os_ix mono_V a.sim b.sim⟩
theorem o_none : XP X c W none tNoPart pNoPart := ⟨po_none, sp_none⟩
theorem o_some {pa : List SV → R PyData} (a : XE X c W rlE ea ta pa) : XP X c W (some ea) (tPart ta) (pPart pa) := ⟨po_some a.pe, sp_some a.sim⟩
theorem n_sl {lo hi : Option Expr} {tl th : TO} {pv : List SV → R (Bool × List PyData)} {pl ph : List SV → R (Option Int)} (a : XE X c W rlV ea ta pv) (l : XP X c W lo tl pl) (h : XP X c W hi th ph) : XN X c W (.Subscript ea (.Slice lo hi none p') pos) (tSl (rSlL X.K) ta tl th) (pSl fSlL pv pl ph) :=
  ⟨pe_slice sl_list a.pe l.po h.po, sim_slL a.sim l.sim h.sim⟩
theorem n_slS {lo hi : Option Expr} {tl th : TO} {pv : List SV → R (List Int)} {pl ph : List SV → R (Option Int)} (hK : c.K = X.K) (a : XE X c W (rlS c) ea ta pv) (l : XP X c W lo tl pl) (h : XP X c W hi th ph) : XN X c W (.Subscript ea (.Slice lo hi none p') pos) (tSl (rSlL X.K) ta tl th) (pSl fSlS pv pl ph) :=
  ⟨pe_slice sl_list a.pe l.po h.po, sim_slS hK a.sim l.sim h.sim⟩

/-! ### built-ins -/
section
variable {p q : Pos} (hs : starEach [ea] X.env = (false, eval ea X.env) :: starEach [] X.env) (hpl : (backTo pos (starEach [] X.env)).any (·.1) = false)
theorem x_len (B : Bt X.mg) {pa : List SV → R (Bool × List PyData)} (a : XE X c W rlV ea ta pa) (hg : Gl X "len" := by rfl) (hs : starEach [ea] X.env = (false, eval ea X.env) :: starEach [] X.env := by rfl) (hpl : (backTo pos (starEach [] X.env)).any (·.1) = false := by rfl) :
    XE X c W rlE (.Call (.Name "len" p) [ea] [] pos) (tCB (fun xs H Q => ∃ p ys, xs = [.ref p] ∧ (SqL X.K H p ys ∨ SqT X.K H p ys) ∧ Q (.int ys.length) H) (tCons ta tNil)) (p1 fLen pa) := ⟨pe_callB call_len_seq hg B.len bb_len (pa_cons a.pe pa_nil hs) (by decide) (by decide) hs hpl, sim_cb1 us_len a.sim⟩
theorem x_tuple (B : Bt X.mg) {pa : List SV → R (Bool × List PyData)} (a : XE X c W rlV ea ta pa) (hg : Gl X "tuple" := by rfl) (hs : starEach [ea] X.env = (false, eval ea X.env) :: starEach [] X.env := by rfl) (hpl : (backTo pos (starEach [] X.env)).any (·.1) = false := by rfl) :
    XE X c W rlE (.Call (.Name "tuple" p) [ea] [] pos) (tCB (fun xs H Q => ∃ p ys, xs = [.ref p] ∧ ((SqL X.K H p ys ∧ ∀ l, H l = none → Q (.ref l) (upd H l (.tup ys))) ∨ (SqT X.K H p ys ∧ Q (.ref p) H))) (tCons ta tNil)) (p1 fTuple pa) := ⟨pe_callTy call_tuple_of hg B.tuple bb_tuple (pa_cons a.pe pa_nil hs) (by decide) (by decide) hs hpl, sim_cb1 us_tuple a.sim⟩
theorem n_list (B : Bt X.mg) {pa : List SV → R (Bool × List PyData)} (a : XE X c W rlV ea ta pa) (hg : Gl X "list" := by rfl) (hs : starEach [ea] X.env = (false, eval ea X.env) :: starEach [] X.env := by rfl) (hpl : (backTo pos (starEach [] X.env)).any (·.1) = false := by rfl) :
    XN X c W (.Call (.Name "list" p) [ea] [] pos) (tCB (fun xs H Q => ∃ p ys, xs = [.ref p] ∧ (SqL X.K H p ys ∨ SqT X.K H p ys) ∧ ∀ l, H l = none → Q (.ref l) (upd H l (.lst ys))) (tCons ta tNil)) (p1 fList pa) := ⟨pe_callTy call_list_of hg B.list bb_list (pa_cons a.pe pa_nil hs) (by decide) (by decide) hs hpl, sim_cb1N un_list a.sim⟩
theorem x_sum (B : Bt X.mg) (hc : X.calm = true) {pa : List SV → R (Bool × List PyData)} (a : XE X c W rlV ea ta pa) (hg : Gl X "sum" := by rfl) (hs : starEach [ea] X.env = (false, eval ea X.env) :: starEach [] X.env := by rfl) (hpl : (backTo pos (starEach [] X.env)).any (·.1) = false := by rfl) :
    XE X c W rlE (.Call (.Name "sum" p) [ea] [] pos) (tCB (rSum X.K) (tCons ta tNil)) (p1 fSum pa) := ⟨pe_callB (cr_sum hc) hg B.sum bb_sum (pa_cons a.pe pa_nil hs) (by decide) (by decide) hs hpl, sim_cb1 us_sum a.sim⟩
theorem x_maxL (B : Bt X.mg) (hc : X.calm = true) {pa : List SV → R (Bool × List PyData)} (a : XE X c W rlV ea ta pa) (hg : Gl X "max" := by rfl) (hs : starEach [ea] X.env = (false, eval ea X.env) :: starEach [] X.env := by rfl) (hpl : (backTo pos (starEach [] X.env)).any (·.1) = false := by rfl) :
    XE X c W rlE (.Call (.Name "max" p) [ea] [] pos) (tCB (rMax X.K) (tCons ta tNil)) (p1 fMaxL pa) := ⟨pe_callB (cr_max hc) hg B.max bb_max (pa_cons a.pe pa_nil hs) (by decide) (by decide) hs hpl, sim_cb1 us_maxL a.sim⟩
theorem x_minL (B : Bt X.mg) (hc : X.calm = true) {pa : List SV → R (Bool × List PyData)} (a : XE X c W rlV ea ta pa) (hg : Gl X "min" := by rfl) (hs : starEach [ea] X.env = (false, eval ea X.env) :: starEach [] X.env := by rfl) (hpl : (backTo pos (starEach [] X.env)).any (·.1) = false := by rfl) :
    XE X c W rlE (.Call (.Name "min" p) [ea] [] pos) (tCB (rMin X.K) (tCons ta tNil)) (p1 fMinL pa) := ⟨pe_callB (cr_min hc) hg B.min bb_min (pa_cons a.pe pa_nil hs) (by decide) (by decide) hs hpl, sim_cb1 us_minL a.sim⟩
theorem x_max2 (B : Bt X.mg) (hc : X.calm = true) {pa pb : List SV → R PyData} (a : XE X c W rlE ea ta pa) (b : XE X c W rlE eb tb pb) (hg : Gl X "max" := by rfl) (hs : starEach [ea, eb] X.env = (false, eval ea X.env) :: starEach [eb] X.env := by rfl) (hs2 : starEach [eb] X.env = (false, eval eb X.env) :: starEach [] X.env := by rfl) (hpl : (backTo pos (starEach [eb] X.env)).any (·.1) = false := by rfl) :
    XE X c W rlE (.Call (.Name "max" p) [ea, eb] [] pos) (tCB (fun xs H Q => ∃ i j, xs = [.int i, .int j] ∧ Q (.int (if j > i then j else i)) H) (tCons ta (tCons tb tNil))) (p2 fMax2 pa pb) := ⟨pe_callB (call_max2 hc) hg B.max bb_max (pa_cons a.pe (pa_cons b.pe pa_nil hs2) hs) (by decide) (by decide) hs hpl, sim_cb2 os_max2 mono_E a.sim b.sim⟩
theorem x_min2 (B : Bt X.mg) (hc : X.calm = true) {pa pb : List SV → R PyData} (a : XE X c W rlE ea ta pa) (b : XE X c W rlE eb tb pb) (hg : Gl X "min" := by rfl) (hs : starEach [ea, eb] X.env = (false, eval ea X.env) :: starEach [eb] X.env := by rfl) (hs2 : starEach [eb] X.env = (false, eval eb X.env) :: starEach [] X.env := by rfl) (hpl : (backTo pos (starEach [eb] X.env)).any (·.1) = false := by rfl) :
    XE X c W rlE (.Call (.Name "min" p) [ea, eb] [] pos) (tCB (fun xs H Q => ∃ i j, xs = [.int i, .int j] ∧ Q (.int (if j < i then j else i)) H) (tCons ta (tCons tb tNil))) (p2 fMin2 pa pb) := ⟨pe_callB (call_min2 hc) hg B.min bb_min (pa_cons a.pe (pa_cons b.pe pa_nil hs2) hs) (by decide) (by decide) hs hpl, sim_cb2 os_min2 mono_E a.sim b.sim⟩
theorem x_int1 (B : Bt X.mg) {pa : List SV → R PyData} (a : XE X c W rlE ea ta pa) (hg : Gl X "int" := by rfl) (hs : starEach [ea] X.env = (false, eval ea X.env) :: starEach [] X.env := by rfl) (hpl : (backTo pos (starEach [] X.env)).any (·.1) = false := by rfl) :
    XE X c W rlE (.Call (.Name "int" p) [ea] [] pos) (tCB (fun xs H Q => (∃ i, xs = [.int i] ∧ Q (.int i) H) ∨ ∃ k, xs = [.bl k] ∧ Q (.int (if k then 1 else 0)) H) (tCons ta tNil)) (p1 fInt1 pa) := ⟨pe_callTy call_int1 hg B.int bb_int (pa_cons a.pe pa_nil hs) (by decide) (by decide) hs hpl, sim_cb1 us_int1 a.sim⟩
theorem x_abs (B : Bt X.mg) {pa : List SV → R PyData} (a : XE X c W rlE ea ta pa) (hg : Gl X "abs" := by rfl) (hs : starEach [ea] X.env = (false, eval ea X.env) :: starEach [] X.env := by rfl) (hpl : (backTo pos (starEach [] X.env)).any (·.1) = false := by rfl) :
    XE X c W rlE (.Call (.Name "abs" p) [ea] [] pos) (tCB (fun xs H Q => ∃ i, xs = [.int i] ∧ Q (.int (if i < 0 then -i else i)) H) (tCons ta tNil)) (p1 fAbs pa) := ⟨pe_callB call_abs hg B.abs bb_abs (pa_cons a.pe pa_nil hs) (by decide) (by decide) hs hpl, sim_cb1 us_abs a.sim⟩
/-- a built-in type as a value -/
theorem pe_ty {x : Str} {T : String} (hm : X.mg x = none) (hv : bootBuiltins x = some (.type T)) (hg : Gl X x := by rfl) (hn : x ≠ "__name__" := by decide) (hdb : (x == ("__debug__" : Str)) = false := by decide) : PE X (.Name x pos) (tC (.ty T)) := pe_bltn hg hm hv rfl hn hdb
theorem x_isi (B : Bt X.mg) {T : String} {pa : List SV → R PyData} (a : XE X c W rlR ea ta pa) (h : PE X eb (tC (.ty T))) (hg : Gl X "isinstance" := by rfl) (hs : starEach [ea, eb] X.env = (false, eval ea X.env) :: starEach [eb] X.env := by rfl) (hs2 : starEach [eb] X.env = (false, eval eb X.env) :: starEach [] X.env := by rfl) (hpl : (backTo pos (starEach [eb] X.env)).any (·.1) = false := by rfl) :
    XE X c W rlE (.Call (.Name "isinstance" p) [ea, eb] [] pos) (tCB (rIsi X.K) (tCons ta (tCons (tC (.ty T)) tNil))) (p1 (fIsi T) pa) := ⟨pe_callB call_isi hg B.isinstance bb_isinstance (pa_cons a.pe (pa_cons h pa_nil hs2) hs) (by decide) (by decide) hs hpl, sim_isi T a.sim⟩
theorem x_isi2 (B : Bt X.mg) {T T' : String} {k : Nat} {pa : List SV → R PyData} (a : XE X c W rlR ea ta pa) (h : PE X eb (tC (.ty T))) (h2 : PE X ec (tC (.ty T'))) (hg : Gl X "isinstance" := by rfl) (hs : starEach [ea, .Tuple [eb, ec] k p'] X.env = (false, eval ea X.env) :: starEach [.Tuple [eb, ec] k p'] X.env := by rfl)
    (hs2 : starEach [.Tuple [eb, ec] k p'] X.env = (false, eval (.Tuple [eb, ec] k p') X.env) :: starEach [] X.env := by rfl) (hs3 : starEach [eb, ec] X.env = (false, eval eb X.env) :: starEach [ec] X.env := by rfl) (hs4 : starEach [ec] X.env = (false, eval ec X.env) :: starEach [] X.env := by rfl) (hpl : (backTo pos (starEach [.Tuple [eb, ec] k p'] X.env)).any (·.1) = false := by rfl) :
    XE X c W rlE (.Call (.Name "isinstance" p) [ea, .Tuple [eb, ec] k p'] [] pos) (tCB (rIsiT X.K) (tCons ta (tCons (tTup (tCons (tC (.ty T)) (tCons (tC (.ty T')) tNil))) tNil))) (p1 (fIsi2 T T') pa) := ⟨pe_callB call_isiT hg B.isinstance bb_isinstance (pa_cons a.pe (pa_cons (pe_tup (pa_cons h (pa_cons h2 pa_nil hs4) hs3)) pa_nil hs2) hs) (by decide) (by decide) hs hpl, sim_isi2 T T' a.sim⟩
end

/-! ### one's own defs -/
section
variable {x m : Str} {p apos : Pos} {k : Nat} {pf : List SV → R PyData} {t : TA} {pa : List SV → R (List SV)} {o : Expr} {to : TE} {po : List SV → R (List PyData)}
theorem x_call (F : Fd c X.prog X.w X.K X.mg X.base x k pf) (hr : Room k X.A) (tk : Takes X W) (a : XA X c W false (e :: es) t pa) (hg : Gl X x := by rfl)
    (hdb : (x == ("__debug__" : Str)) = false := by decide) (he : starEach (e :: es) X.env = (false, eval e X.env) :: starEach es X.env := by rfl) (hpl : (backTo pos (starEach es X.env)).any (·.1) = false := by rfl) :
    XE X c W rlE (.Call (.Name x p) (e :: es) [] pos) (tCallS (spF c pf) (WE W) t) (pCall pf pa) := by
  obtain ⟨f, fd, ps, F, hm, hk, hb⟩ := F.ex
  exact ⟨pe_callS F hr hg hm hk hb (fun σ => passAt tk σ) a.pa hdb he hpl, sim_call a.sim⟩
theorem x_callR (F : Fd c X.prog X.w X.K X.mg X.base x k pf) (hr : Room k X.A) (tk : Takes X W) (a : XA X c W true (e :: es) t pa) (hg : Gl X x := by rfl)
    (hdb : (x == ("__debug__" : Str)) = false := by decide) (he : starEach (e :: es) X.env = (false, eval e X.env) :: starEach es X.env := by rfl) (hpl : (backTo pos (starEach es X.env)).any (·.1) = false := by rfl) :
    XE X c W rlE (.Call (.Name x p) (e :: es) [] pos) (tCallS (spF c pf) (WE W) t) (pCallR pf pa) := by
  obtain ⟨f, fd, ps, F, hm, hk, hb⟩ := F.ex
  exact ⟨pe_callS F hr hg hm hk hb (fun σ => passAt tk σ) a.pa hdb he hpl, sim_callR a.sim⟩
theorem x_meth {pl : Sem Bool} (M : Md c X.prog X.w X.K X.mg X.base m k pf) (CL : Cls X.K c.C) (hr : Room k X.A) (tk : Takes X W) (hnm : nmB.contains m = false) (b : XE X c W (rlO c) o to po) (a : XA X c W false (e :: es) t pa)
    (he : starEach (e :: es) X.env = (false, eval e X.env) :: starEach es X.env := by rfl) (hpl : (backTo pos (starEach es X.env)).any (·.1) = false := by rfl)
    (ht : eval (.Call (.Attribute o m apos) (e :: es) [] pos) X.env = (do
      let ov ← eval o X.env
      standAt apos.atName
      let (f, first) ← holding [ov] (getMethod ov m pl)
      callWith pos f first (backTo pos (starEach (e :: es) X.env)) (backToKw pos (keywordEach [] X.env))) := by rfl) :
    XE X c W rlE (.Call (.Attribute o m apos) (e :: es) [] pos) (tMethS c.C m (spF c pf) W to t) (pMeth pf po pa) := by
  obtain ⟨f, fd, ps, F, hm, hb⟩ := M.ex
  exact ⟨pe_methS (pl := pl) b.pe CL hm F hr hb tk a.pa he hpl ht, sim_meth hnm b.sim a.sim⟩
theorem x_meth0 {pl : Sem Bool} (M : Md c X.prog X.w X.K X.mg X.base m k pf) (CL : Cls X.K c.C) (hr : Room k X.A) (tk : Takes X W) (hnm : nmB.contains m = false) (b : XE X c W (rlO c) o to po)
    (ht : eval (.Call (.Attribute o m apos) [] [] pos) X.env = (do
      let ov ← eval o X.env
      standAt apos.atName
      let (f, first) ← holding [ov] (getMethod ov m pl)
      callWith pos f first (backTo pos (starEach [] X.env)) (backToKw pos (keywordEach [] X.env))) := by rfl) :
    XE X c W rlE (.Call (.Attribute o m apos) [] [] pos) (tMethS c.C m (spF c pf) W to tNil) (pMeth pf po pNil) := by
  obtain ⟨f, fd, ps, F, hm, hb⟩ := M.ex
  exact ⟨pe_methS0 (pl := pl) b.pe CL hm F hr hb tk ht, sim_meth hnm b.sim simA_nil⟩
theorem x_fld {f : Str} {j : Nat} (CL : Cls X.K c.C) (na : NoAttr X.K c.C f) (hf : ∀ vs : List V, vs.length = nmB.length → (nmB.zip vs).lookup f = vs[j]?) (b : XE X c W (rlO c) o to po) (hb : attributeBase o f X.env (eval o X.env) = eval o X.env := by rfl) :
    XE X c W rlE (.Attribute o f pos) (tFld X.K to f) (pFld j po) := ⟨pe_fld b.pe hb, sim_fld CL na hf b.sim⟩
/-- the class's maker -/
structure Mkd (c : Cf) (P : Program) (w : World) (K : PySem.W.Frag) (mg : Str → Option Value) (base : Heap) (x : Str) (k : Nat) (pf : List SV → R (List PyData)) : Prop where
  ex : ∃ (f : Addr) (fd : FuncData) (ps : List Str), FnOk P w K mg base (L2.CX P w) k f fd ps (spI c pf) ∧ Mk K c.C f ∧ mg x = some (.ref c.C) ∧ Binds K fd ps []
theorem x_make {pI : List SV → R (List PyData)} (M : Mkd c X.prog X.w X.K X.mg X.base x k pI) (hr : Room (k + 1) X.A) (tk : Takes X W) (a : XA X c W true (e :: es) t pa) (hg : Gl X x := by rfl)
    (hdb : (x == ("__debug__" : Str)) = false := by decide) (he : starEach (e :: es) X.env = (false, eval e X.env) :: starEach es X.env := by rfl) (hpl : (backTo pos (starEach es X.env)).any (·.1) = false := by rfl) :
    XE X c W (rlO c) (.Call (.Name x p) (e :: es) [] pos) (tMakeS c.C (spI c pI) W t) (pMake pI pa) := by
  obtain ⟨f, fd, ps, F, hmk, hm, hb⟩ := M.ex
  exact ⟨pe_makeS hmk F hr hg hm hb tk a.pa hdb he hpl, sim_make a.sim⟩
end

/-! ### targets, what is walked, comprehensions -/
theorem g_name (h : PG X e (gName i)) : XG X c e (gName i) (gName1 i) [i] := ⟨h, sg_name i⟩
theorem g_names {k : Nat} (is : List Nat) (hc : X.calm = true) (h : PGs X es (gsOf is)) (hn : (assignEach es X.env).length = is.length := by rfl) (hst : (assignEach es X.env).findIdx? (·.1) = none := by rfl) : XG X c (.Tuple es k pos) (gSeq X.K is.length (gsOf is)) (gNames is) is := ⟨pg_seq hc h hn hst, sg_names X.K is⟩
theorem i_seq {tg : Expr} {pa : List SV → R PyData} (a : XE X c W rlE ea ta pa) : XI X c W tg ea (iSeqT X.K ta) (iSq pa) := ⟨pi_seqT a.pe, si_seq X.K a.sim⟩
theorem i_en {p tpos : Pos} {elts : List Expr} {kk : Nat} (B : Bt X.mg) {pa : List SV → R PyData} (a : XE X c W rlE ea ta pa) (hg : Gl X "enumerate" := by rfl) (hs : starEach [ea] X.env = [(false, eval ea X.env)] := by rfl)
    (hs1 : starEach (ea :: []) X.env = (false, eval ea X.env) :: starEach [] X.env := by rfl) : XI X c W (.Tuple elts kk tpos) (.Call (.Name "enumerate" p) [ea] [] pos) (iEnT X.K ta) (iEn pa) := ⟨pi_enT hg B.enumerate a.pe hs hs1, si_en X.K a.sim⟩
theorem i_rg1 {p : Pos} {tg : Expr} (B : Bt X.mg) {pa : List SV → R PyData} (a : XE X c W rlE ea ta pa) (hg : Gl X "range" := by rfl) (hs : starEach [ea] X.env = [(false, eval ea X.env)] := by rfl) (hs1 : starEach (ea :: []) X.env = (false, eval ea X.env) :: starEach [] X.env := by rfl) :
    XI X c W tg (.Call (.Name "range" p) [ea] [] pos) (iRng1 (tCons ta tNil)) (iRg1 pa) := ⟨pi_range1 hg B.range (pa_cons a.pe pa_nil hs1) hs, si_rg1 a.sim⟩
theorem i_rg2 {p : Pos} {tg : Expr} (B : Bt X.mg) {pa pb : List SV → R PyData} (a : XE X c W rlE ea ta pa) (b : XE X c W rlE eb tb pb) (hg : Gl X "range" := by rfl) (hs : starEach [ea, eb] X.env = [(false, eval ea X.env), (false, eval eb X.env)] := by rfl) (hs2 : starEach [eb] X.env = [(false, eval eb X.env)] := by rfl)
    (h1 : starEach (ea :: [eb]) X.env = (false, eval ea X.env) :: starEach [eb] X.env := by rfl) (h2 : starEach (eb :: []) X.env = (false, eval eb X.env) :: starEach [] X.env := by rfl) :
    XI X c W tg (.Call (.Name "range" p) [ea, eb] [] pos) (iRng2 (tCons ta (tCons tb tNil))) (iRg2 pa pb) := ⟨pi_range2 hg B.range (pa_cons a.pe (pa_cons b.pe pa_nil h2) h1) hs hs2, si_rg2 a.sim b.sim⟩
abbrev W0 : WX := fun _ _ _ _ => False
abbrev Bl (α : Type) := Shared → Hp → Addr → List (Str × Addr) → List Addr → α
section
variable {elt tg iter : Expr} {ifs : List Expr} {scope : Scope} {own : List (Str × Nat)} {wi : TI} {g : Bl TG} {tt : Bl TT} {te : Bl TE} {pi : List SV → R (List PyData)} {pg : PyData → List SV → Option (List SV)} {ts : List Nat} {pt : List SV → R Bool} {pe : List SV → R PyData}
theorem n_lc {vs : List Nat} (hvs : own.map (·.2) = vs) (hc : X.calm = true) (hN : X.N.Nodup) (hi : XI X c W tg iter wi pi) (ok : BlkOk X.N X.env.scope scope own)
    (hg : ∀ (s : Shared) (H : Hp) (C : Addr) (cl : List (Str × Addr)) (fp : List Addr), XG (X.blk s H scope (compEnvC scope cl C X.env) fp) c tg (g s H C cl fp) pg ts) (hts : ∀ j, j ∈ ts → j ∈ vs)
    (ht : ∀ (s : Shared) (H : Hp) (C : Addr) (cl : List (Str × Addr)) (fp : List Addr), XTs (X.blk s H scope (compEnvC scope cl C X.env) fp) c W0 ifs (tt s H C cl fp) pt)
    (he : ∀ (s : Shared) (H : Hp) (C : Addr) (cl : List (Str × Addr)) (fp : List Addr), XE (X.blk s H scope (compEnvC scope cl C X.env) fp) c W0 rlE elt (te s H C cl fp) pe)
    (eg : ∀ s H C cl fp, g s H C cl fp = g X.s_0 X.H_0 0 [] [] := by intros; rfl) (et : ∀ s H C cl fp, tt s H C cl fp = tt X.s_0 X.H_0 0 [] [] := by intros; rfl) (ee : ∀ s H C cl fp, te s H C cl fp = te X.s_0 X.H_0 0 [] [] := by intros; rfl)
    (hs : ∀ x, foldedSetIterable iter X.env x = pure x := by intro _; rfl) :
    XN X c W (.ListComp elt [⟨tg, iter, ifs, 0⟩] scope pos) (tLc wi (g X.s_0 X.H_0 0 [] []) (tt X.s_0 X.H_0 0 [] []) (te X.s_0 X.H_0 0 [] []) vs) (pLc pi pg pt pe vs) := by
  subst hvs
  exact ⟨pe_lc hc hN hi.pi ok (fun s H C cl fp => by rw [← eg s H C cl fp]; exact (hg s H C cl fp).pgt) (fun s H C cl fp => by rw [← et s H C cl fp]; exact (ht s H C cl fp).pts) (fun s H C cl fp => by rw [← ee s H C cl fp]; exact (he s H C cl fp).pe) hs, (sim_lc hi.sim (hg X.s_0 X.H_0 0 [] []).sim hts (ht X.s_0 X.H_0 0 [] []).sim (he X.s_0 X.H_0 0 [] []).sim)⟩
/-- y = [..]: as data, as one's own -/
theorem s_setLc {vs : List Nat} {y : Str} {py spos : Pos} (hvs : own.map (·.2) = vs) (hc : X.calm = true) (hN : X.N.Nodup) (hy : X.N[i]? = some y) (hyl : X.env.scope.names.lookup y = some .local) (hsw : swapsWith (.ListComp elt [⟨tg, iter, ifs, 0⟩] scope pos) (some (.Name y py)) spos.line X.env = pure true) (hi : XI X c W tg iter wi pi) (ok : BlkOk X.N X.env.scope scope own)
    (hg : ∀ (s : Shared) (H : Hp) (C : Addr) (cl : List (Str × Addr)) (fp : List Addr), XG (X.blk s H scope (compEnvC scope cl C X.env) fp) c tg (g s H C cl fp) pg ts) (hts : ∀ j, j ∈ ts → j ∈ vs)
    (ht : ∀ (s : Shared) (H : Hp) (C : Addr) (cl : List (Str × Addr)) (fp : List Addr), XTs (X.blk s H scope (compEnvC scope cl C X.env) fp) c W0 ifs (tt s H C cl fp) pt)
    (he : ∀ (s : Shared) (H : Hp) (C : Addr) (cl : List (Str × Addr)) (fp : List Addr), XE (X.blk s H scope (compEnvC scope cl C X.env) fp) c W0 rlE elt (te s H C cl fp) pe)
    (eg : ∀ s H C cl fp, g s H C cl fp = g X.s_0 X.H_0 0 [] [] := by intros; rfl) (et : ∀ s H C cl fp, tt s H C cl fp = tt X.s_0 X.H_0 0 [] [] := by intros; rfl) (ee : ∀ s H C cl fp, te s H C cl fp = te X.s_0 X.H_0 0 [] [] := by intros; rfl)
    (hs : ∀ x, foldedSetIterable iter X.env x = pure x := by intro _; rfl) :
    XS X c W (.Assign [.Name y py] (.ListComp elt [⟨tg, iter, ifs, 0⟩] scope pos) spos) (tAsg (tLc wi (g X.s_0 X.H_0 0 [] []) (tt X.s_0 X.H_0 0 [] []) (te X.s_0 X.H_0 0 [] []) vs) (gName i)) (qSet i (pList (pLc pi pg pt pe vs))) := by
  subst hvs
  exact ⟨ps_setLc hc hN hy hyl hsw hi.pi ok (fun s H C cl fp => by rw [← eg s H C cl fp]; exact (hg s H C cl fp).pgt) (fun s H C cl fp => by rw [← et s H C cl fp]; exact (ht s H C cl fp).pts) (fun s H C cl fp => by rw [← ee s H C cl fp]; exact (he s H C cl fp).pe) hs, ss_set i (sim_n (sim_lc hi.sim (hg X.s_0 X.H_0 0 [] []).sim hts (ht X.s_0 X.H_0 0 [] []).sim (he X.s_0 X.H_0 0 [] []).sim))⟩
theorem s_setLcN {vs : List Nat} {y : Str} {py spos : Pos} (hvs : own.map (·.2) = vs) (hc : X.calm = true) (hN : X.N.Nodup) (hy : X.N[i]? = some y) (hyl : X.env.scope.names.lookup y = some .local) (hsw : swapsWith (.ListComp elt [⟨tg, iter, ifs, 0⟩] scope pos) (some (.Name y py)) spos.line X.env = pure true) (hi : XI X c W tg iter wi pi) (ok : BlkOk X.N X.env.scope scope own)
    (hg : ∀ (s : Shared) (H : Hp) (C : Addr) (cl : List (Str × Addr)) (fp : List Addr), XG (X.blk s H scope (compEnvC scope cl C X.env) fp) c tg (g s H C cl fp) pg ts) (hts : ∀ j, j ∈ ts → j ∈ vs)
    (ht : ∀ (s : Shared) (H : Hp) (C : Addr) (cl : List (Str × Addr)) (fp : List Addr), XTs (X.blk s H scope (compEnvC scope cl C X.env) fp) c W0 ifs (tt s H C cl fp) pt)
    (he : ∀ (s : Shared) (H : Hp) (C : Addr) (cl : List (Str × Addr)) (fp : List Addr), XE (X.blk s H scope (compEnvC scope cl C X.env) fp) c W0 rlE elt (te s H C cl fp) pe)
    (eg : ∀ s H C cl fp, g s H C cl fp = g X.s_0 X.H_0 0 [] [] := by intros; rfl) (et : ∀ s H C cl fp, tt s H C cl fp = tt X.s_0 X.H_0 0 [] [] := by intros; rfl) (ee : ∀ s H C cl fp, te s H C cl fp = te X.s_0 X.H_0 0 [] [] := by intros; rfl)
    (hs : ∀ x, foldedSetIterable iter X.env x = pure x := by intro _; rfl) :
    XS X c W (.Assign [.Name y py] (.ListComp elt [⟨tg, iter, ifs, 0⟩] scope pos) spos) (tAsg (tLc wi (g X.s_0 X.H_0 0 [] []) (tt X.s_0 X.H_0 0 [] []) (te X.s_0 X.H_0 0 [] []) vs) (gName i)) (qSetN i (pLc pi pg pt pe vs)) := by
  subst hvs
  exact ⟨ps_setLc hc hN hy hyl hsw hi.pi ok (fun s H C cl fp => by rw [← eg s H C cl fp]; exact (hg s H C cl fp).pgt) (fun s H C cl fp => by rw [← et s H C cl fp]; exact (ht s H C cl fp).pts) (fun s H C cl fp => by rw [← ee s H C cl fp]; exact (he s H C cl fp).pe) hs, ss_setN i (sim_lc hi.sim (hg X.s_0 X.H_0 0 [] []).sim hts (ht X.s_0 X.H_0 0 [] []).sim (he X.s_0 X.H_0 0 [] []).sim)⟩
end

/-! ### statements -/
variable {st st2 : Stmt} {b1 b2 rest : List Stmt} {t u : TS} {q q2 : List SV → Fl}
theorem b_nil : XB X c W [] tNext qNext := ⟨pss_nil, ss_nil⟩
theorem b_cons (a : XS X c W st t q) (b : XB X c W rest u q2) : XB X c W (st :: rest) (tSeq t u) (qSeq q q2) := ⟨pss_cons a.ps b.ps, ss_seq a.sim b.sim⟩
theorem b_one (a : XS X c W st t q) : XB X c W [st] t q := ⟨pss_one a.ps, a.sim⟩
theorem b_frz (i : Nat) (a : XB X c W rest t q) : XB X c W rest t (qFrz i q) := ⟨a.ps, ss_frz i a.sim⟩
theorem s_if {tt : TT} {pc : List SV → R Bool} (h : XT X c W ec tt pc) (a : XB X c W b1 t q) (b : XB X c W b2 u q2) : XS X c W (.If ec b1 b2 pos) (tIfS tt t u) (qIf pc q q2) := ⟨ps_if h.pt a.ps b.ps, ss_if h.sim a.sim b.sim⟩
theorem s_ret {p : List SV → R PyData} (a : XE X c W rlE e te p) : XS X c W (.Return (some e) pos) (tRet te) (qRet p) := ⟨ps_ret a.pe, ss_ret a.sim⟩
theorem s_drop {rl : Rl α} {p : List SV → R α} (a : XE X c W rl e te p) (hs : swapsWith e none pos.line X.env = pure false := by rfl) : XS X c W (.Expr e pos) (tDrop te) (qDrop p) := ⟨ps_expr a.pe hs, ss_drop a.sim⟩
section
variable {x : Str} {pos' : Pos}
theorem s_set {p : List SV → R PyData} (i : Nat) (hN : X.N.Nodup) (hi : X.N[i]? = some x) (hx : Loc X.env.scope x) (a : XE X c W rlE e te p) (hs : swapsWith e (some (.Name x pos')) pos.line X.env = pure false := by rfl) (hf : X.fn x = true ∨ X.env.scope.names.lookup x = some .local := by first | exact .inl rfl | exact .inr rfl | assumption) :
    XS X c W (.Assign [.Name x pos'] e pos) (tAsg te (gName i)) (qSet i p) := ⟨ps_set hN hi hx a.pe hs hf, ss_set i a.sim⟩
theorem s_setN {p : List SV → R (List PyData)} (i : Nat) (hN : X.N.Nodup) (hi : X.N[i]? = some x) (hx : Loc X.env.scope x) (a : XN X c W e te p) (hs : swapsWith e (some (.Name x pos')) pos.line X.env = pure false := by rfl) (hf : X.fn x = true ∨ X.env.scope.names.lookup x = some .local := by first | exact .inl rfl | exact .inr rfl | assumption) :
    XS X c W (.Assign [.Name x pos'] e pos) (tAsg te (gName i)) (qSetN i p) := ⟨ps_set hN hi hx a.pe hs hf, ss_setN i a.sim⟩
theorem s_setO {p : List SV → R (List PyData)} (i : Nat) (hN : X.N.Nodup) (hi : X.N[i]? = some x) (hx : Loc X.env.scope x) (a : XE X c W (rlO c) e te p) (hs : swapsWith e (some (.Name x pos')) pos.line X.env = pure false := by rfl) (hf : X.fn x = true ∨ X.env.scope.names.lookup x = some .local := by first | exact .inl rfl | exact .inr rfl | assumption) :
    XS X c W (.Assign [.Name x pos'] e pos) (tAsg te (gName i)) (qSetO i p) := ⟨ps_set hN hi hx a.pe hs hf, ss_setO i a.sim⟩
theorem s_add {p : List SV → R PyData} (i : Nat) (hN : X.N.Nodup) (hi : X.N[i]? = some x) (hx : Loc X.env.scope x) (a : XE X c W rlE e te p) (hf : X.fn x = true ∨ X.env.scope.names.lookup x = some .local := by first | exact .inl rfl | exact .inr rfl | assumption) :
    XS X c W (.AugAssign (.Name x pos') .Add e pos) (tAug i te (ipI fun i j => i + j)) (qAdd i p) := ⟨ps_aug hN hi hx a.pe ip_add hf, ss_add i a.sim⟩
theorem s_tgt {tg : Expr} {g : TG} {pg : PyData → List SV → Option (List SV)} {ts : List Nat} {p : List SV → R PyData} (h : XG X c tg g pg ts) (a : XE X c W rlE e te p) (hs : swapsWithSole [tg] e pos.line X.env = pure false := by rfl) (hw : swappedStores [tg] e X.env = pure none := by rfl)
    (h1 : (assignEach [tg] X.env).map (·.2) = [assign tg X.env] := by rfl) : XS X c W (.Assign [tg] e pos) (tAsg te g) (qTgt pg p) := ⟨ps_asg a.pe h.pgt hs hw h1, ss_tgt h.sim a.sim⟩
theorem s_app {o : Expr} {apos cpos : Pos} {p : List SV → R PyData} (i : Nat) (ho : PE X o (tVar i)) (a : XE X c W rlE e te p) (hs1 : starEach (e :: []) X.env = (false, eval e X.env) :: starEach [] X.env := by rfl) (hbase : attributeBase o "append" X.env (eval o X.env) = eval o X.env := by rfl)
    (hfew : ((backTo cpos (starEach (e :: []) X.env)).all (fun x => !x.1) && (backToKw cpos (keywordEach [] X.env)).all (fun x => x.1.isSome)
      && decide ((e :: []).length + ([] : List Keyword).length + (if ([] : List Keyword).isEmpty then 0 else 1) < 30)) = true := by rfl)
    (hline : (apos.endLine == cpos.line) = true := by rfl) (hplain : (backTo cpos (starEach [] X.env)).any (·.1) = false := by rfl) (hs : swapsWith (.Call (.Attribute o "append" apos) [e] [] cpos) none pos.line X.env = pure false := by rfl) :
    XS X c W (.Expr (.Call (.Attribute o "append" apos) [e] [] cpos) pos) (tDrop (tBM X.K "list" rAppend (tVar i) (tCons te tNil))) (qApp i p) :=
  ⟨ps_expr (pe_bm PySem.F.plainAttrs_list PySem.F.slot_list_append PySem.F.type_list_append mt_append ho (pa_cons a.pe pa_nil hs1) hbase hfew hline hs1 hplain) hs, ss_app i a.sim⟩
theorem s_store {o : Expr} {spos : Pos} {pj p : List SV → R PyData} (i : Nat) (ho : PE X o (tVar i)) (j : XE X c W rlE ea ta pj) (a : XE X c W rlE e te p) (hg : PE X o (tVar i) → PE X ea ta → PG X (.Subscript o ea spos) (gSub (tVar i) ta rSetL)) (hs : swapsWithSole [.Subscript o ea spos] e pos.line X.env = pure false := by rfl) (hw : swappedStores [.Subscript o ea spos] e X.env = pure none := by rfl)
    (h1 : (assignEach [.Subscript o ea spos] X.env).map (·.2) = [assign (.Subscript o ea spos) X.env] := by rfl) :
    XS X c W (.Assign [.Subscript o ea spos] e pos) (tAsg te (gSub (tVar i) ta rSetL)) (qStore i p pj) := ⟨ps_asg a.pe (hg ho j.pe) hs hw h1, ss_store i a.sim j.sim⟩
end
theorem s_for {tg it : Expr} {wi : TI} {pi : List SV → R (List PyData)} {g : TG} {pg : PyData → List SV → Option (List SV)} {ts : List Nat} (hp : PassesOwn (model X.prog X.w) X.A X.env X.xe) (hc : X.calm = true) (hi : XI X c W tg it wi pi) (hg : XG X c tg g pg ts) (b : XB X c W rest t q)
    (hs : ∀ x, foldedSetIterable it X.env x = pure x := by intro _; rfl) : XS X c W (.For tg it rest [] pos) (tFor wi g t) (qFor pi pg q) := ⟨ps_for hp hc hi.pi hg.pgt b.ps hs, ss_for hi.sim hg.sim b.sim⟩
theorem s_while (n : Nat) {tt : TT} {pc : List SV → R Bool} (hp : PassesOwn (model X.prog X.w) X.A X.env X.xe) (h : XT X c W ec tt pc) (b : XB X c W rest t q) : XS X c W (.While ec rest [] pos) (tWhile tt t) (qWhile n pc q) := ⟨ps_while hp h.pt b.ps, ss_while n h.sim b.sim⟩
theorem s_brk : XS X c W (.Break pos) tBreak qBrk := ⟨ps_break, ss_brk⟩
theorem s_pass : XS X c W (.Pass pos) tNext qNext := ⟨ps_pass, ss_nil⟩
theorem s_ofld (j : Nat) {f : Str} {p : List SV → R PyData} (CL : Cls X.K c.C) (na : NoAttr X.K c.C f) (hf : nmB[j]? = some f) (hlt : j < nmB.length) (h : PE X ea (tVar i)) (a : XE X c W rlE e te p) (hs : swapsWith e (some (.Attribute ea f p')) pos.line X.env = pure false := by rfl) :
    XS X c W (.Assign [.Attribute ea f p'] e pos) (sFld X.K (tVar i) te f) (qOfld i j p) := ⟨ps_fld h a.pe hs, ss_ofld i j CL na hf hlt a.sim⟩

/-! ### errors -/
section
variable {fI : Addr} {a : Expr} {pa : List SV → R PyData} {p pos2 : Pos} {k : Nat}
theorem s_raiseN (hc : X.calm = true) (T : PySem.LowNX.LowNTxt X.K X.mg c.CN fI) (hr : Room k X.A) (tk : Takes X W) (h : XE X c W rlE a ta pa) (hg : Gl X "BadNumber" := by rfl) (hs : starEach [a] X.env = (false, eval a X.env) :: starEach [] X.env := by rfl)
    (he : starEach (a :: []) X.env = (false, eval a X.env) :: starEach [] X.env := by rfl) (hpl : (backTo pos (starEach [] X.env)).any (·.1) = false := by rfl) :
    XS X c W (.Raise (some (.Call (.Name "BadNumber" p) [a] [] pos)) none pos2) (tRaiseLowN c.CN W (tCons ta tNil)) (qRaise 0 pa) := ⟨ps_raiseLowN hc T hr tk (pa_cons h.pe pa_nil hs) hg he hpl, ss_raise0 0 rfl h.sim⟩
theorem s_raiseV (hc : X.calm = true) (T : PySem.LowVX.LowVTxt X.K X.mg c.CV fI) (hr : Room k X.A) (tk : Takes X W) (h : XE X c W rlE a ta pa) (hg : Gl X "BadValue" := by rfl) (hs : starEach [a] X.env = (false, eval a X.env) :: starEach [] X.env := by rfl)
    (he : starEach (a :: []) X.env = (false, eval a X.env) :: starEach [] X.env := by rfl) (hpl : (backTo pos (starEach [] X.env)).any (·.1) = false := by rfl) :
    XS X c W (.Raise (some (.Call (.Name "BadValue" p) [a] [] pos)) none pos2) (tRaiseLowV c.CV W (tCons ta tNil)) (qRaise 1 pa) := ⟨ps_raiseLowV hc T hr tk (pa_cons h.pe pa_nil hs) hg he hpl, ss_raise0 1 rfl h.sim⟩
variable {n nm : Str} {body : List Stmt} {tb : WX → TS} {np hpos : Pos} {suite : Stmt} {j : Nat}
theorem s_tryN (j : Nat) (hS : X.stack = X.env :: X.outer) (hf : X.env.frame = some X.env.locals) (hN : X.N.Nodup) (hi : X.N[i]? = some n) (hln : X.env.kindOf n = some .local) (T : PySem.LowNX.LowNTxt X.K X.mg c.CN fI) (tk : Takes X W) (hg : Gl X "BadNumber")
    (hb : ∀ (W' : WX) (pn : List (Addr × Obj)) (xe : Value → Shared → Prop), Takes (X.tr pn xe) W' → PassesOwn (model X.prog X.w) X.A X.env xe → PSs (X.tr pn xe) body (tb W')) (hsim : ∀ W', SimS c (tb W') q W')
    (hsu : ∀ (a : Addr) (oe : Obj) (cls : Value) (d : Option Addr) (pn : List (Addr × Obj)), Zc cls d oe → (∃ vs, oe.data = .fields vs) → PSs (X.suite a ((a, oe) :: pn)) [suite] (tAsg (tByLowN c.CN a cls d (tVar i)) (gName j))) :
    XS X c W (.Try body [.ExceptHandler (some (.Name "BadNumber" np)) (some n) [suite] hpos] [] [] pos) (fun D σ H => tb (wAs X.K (.ref c.CN) i (fun a cls d => tAsg (tByLowN c.CN a cls d (tVar i)) (gName j)) W D) D σ H) (qTry 0 i j q) :=
  ⟨ps_try_as (i := i) (tb := tb) (ts := fun a cls d => tAsg (tByLowN c.CN a cls d (tVar i)) (gName j)) (Wout := W) hS hf hN hi hln ⟨hg, by decide, Or.inl T.gC⟩ tk hb hsu,
    ss_try0 0 i j rfl T.te hsim⟩
theorem s_tryV (j : Nat) (hS : X.stack = X.env :: X.outer) (hf : X.env.frame = some X.env.locals) (hN : X.N.Nodup) (hi : X.N[i]? = some n) (hln : X.env.kindOf n = some .local) (T : PySem.LowVX.LowVTxt X.K X.mg c.CV fI) (tk : Takes X W) (hg : Gl X "BadValue")
    (hb : ∀ (W' : WX) (pn : List (Addr × Obj)) (xe : Value → Shared → Prop), Takes (X.tr pn xe) W' → PassesOwn (model X.prog X.w) X.A X.env xe → PSs (X.tr pn xe) body (tb W')) (hsim : ∀ W', SimS c (tb W') q W')
    (hsu : ∀ (a : Addr) (oe : Obj) (cls : Value) (d : Option Addr) (pn : List (Addr × Obj)), Zc cls d oe → (∃ vs, oe.data = .fields vs) → PSs (X.suite a ((a, oe) :: pn)) [suite] (tAsg (tByLowV c.CV a cls d (tVar i)) (gName j))) :
    XS X c W (.Try body [.ExceptHandler (some (.Name "BadValue" np)) (some n) [suite] hpos] [] [] pos) (fun D σ H => tb (wAs X.K (.ref c.CV) i (fun a cls d => tAsg (tByLowV c.CV a cls d (tVar i)) (gName j)) W D) D σ H) (qTry 1 i j q) :=
  ⟨ps_try_as (i := i) (tb := tb) (ts := fun a cls d => tAsg (tByLowV c.CV a cls d (tVar i)) (gName j)) (Wout := W) hS hf hN hi hln ⟨hg, by decide, Or.inl T.gC⟩ tk hb hsu,
    ss_try0 1 i j rfl T.te hsim⟩
end
end
theorem fn_simE {c : Cf} {P : Program} {w : World} {K : PySem.W.Frag} {mg : Str → Option Value} {base : Heap} {x qual : Str} {st : Stmt} {f : Addr} {fd : FuncData} {N ps : List Str} {k : Nat} (p : List SV → Fl) (n m : Nat) (hn : ps.length = n) (hm : N.length = m) (F : Fun K x qual st f fd) (S : FnScope N ps (defScope st))
    (hb : ∀ (cdv : Value) (A : Around) (outer : List Env) (s : Shared) (H : Hp) (E : XK), Room k (A.deeper (envOfC qual (defScope st) s.heap.objs.size f cdv)) → Takes (cxOf (L2.CX P w) P w K mg base N qual (defScope st) f cdv A outer s H E) (fun cls d _ H => E cls d H) →
      PassesOwn (model P w) (cxOf (L2.CX P w) P w K mg base N qual (defScope st) f cdv A outer s H E).A (cxOf (L2.CX P w) P w K mg base N qual (defScope st) f cdv A outer s H E).env (cxOf (L2.CX P w) P w K mg base N qual (defScope st) f cdv A outer s H E).xe →
      ∃ t, XB (cxOf (L2.CX P w) P w K mg base N qual (defScope st) f cdv A outer s H E) c (fun cls d _ H => E cls d H) (defBody st) t p) :
    FnOk P w K mg base (L2.CX P w) (k + 1) f fd ps (spF c (runF n m p)) := by
  subst hn hm
  exact fn_sim F S fun cdv A outer s H E hr => by
    obtain ⟨t, h⟩ := hb cdv A outer s H E hr (takes_of rfl rfl rfl rfl) (passes_of rfl)
    exact ⟨t, h.ps, h.sim⟩
theorem fn_simIE {c : Cf} {P : Program} {w : World} {K : PySem.W.Frag} {mg : Str → Option Value} {base : Heap} {x qual : Str} {st : Stmt} {f : Addr} {fd : FuncData} {N ps : List Str} {k : Nat} (p : List SV → Fl) (pf : List SV → R (List PyData)) (n m : Nat) (hn : ps.length = n) (hm : N.length = m) (F : Fun K x qual st f fd) (S : FnScope N ps (defScope st))
    (hpf : ∀ a as, runI n m p a as = pf as)
    (hb : ∀ (cdv : Value) (A : Around) (outer : List Env) (s : Shared) (H : Hp) (E : XK), Room k (A.deeper (envOfC qual (defScope st) s.heap.objs.size f cdv)) → Takes (cxOf (L2.CX P w) P w K mg base N qual (defScope st) f cdv A outer s H E) (fun cls d _ H => E cls d H) →
      PassesOwn (model P w) (cxOf (L2.CX P w) P w K mg base N qual (defScope st) f cdv A outer s H E).A (cxOf (L2.CX P w) P w K mg base N qual (defScope st) f cdv A outer s H E).env (cxOf (L2.CX P w) P w K mg base N qual (defScope st) f cdv A outer s H E).xe →
      ∃ t, XB (cxOf (L2.CX P w) P w K mg base N qual (defScope st) f cdv A outer s H E) c (fun cls d _ H => E cls d H) (defBody st) t p) :
    FnOk P w K mg base (L2.CX P w) (k + 1) f fd ps (spI c pf) := by
  subst hn hm
  exact fn_simI F S hpf fun cdv A outer s H E hr => by
    obtain ⟨t, h⟩ := hb cdv A outer s H E hr (takes_of rfl rfl rfl rfl) (passes_of rfl)
    exact ⟨t, h.ps, h.sim⟩
end Sm

set_option Elab.async false
set_option linter.all false
set_option maxRecDepth 100000
set_option maxHeartbeats 2000000
/-! Sm9: data whose lists nobody else sees; they may be written into and are forgotten then. -/
namespace Sm
open PySem PySem.Spec PyProof.Rows L2

def FrP (c : Cf) (W : WX) (σ : L2.St) (G H : Hp) (Q : VK) : R PyData → Prop
  | .ok x => ∀ v Gx G' H', Stp G H G' H' → Rp Gx v x → Same Gx H' → (∀ a u, Gx a = some u → isLT u = true) → (∀ a xs, Gx a = some (.lst xs) → H a = none ∧ G' a = none) → Q v H'
  | .exc n x => ∀ cls d G' H', Stp G H G' H' → XRep c n x cls d G' H' → W cls d σ H'
  | .bad => False
def SimF (c : Cf) (te : TE) (p : List SV → R PyData) (W : WX) : Prop := ∀ Ge He ρ σ G H, Rep c Ge He ρ σ G H → ∀ Q : VK, FrP c W σ G H Q (p ρ) → te σ H Q
def tupO (H : Hp) : Hp := fun a => match H a with
  | some (.tup xs) => some (.tup xs)
  | _ => none
theorem tupO_eq {H : Hp} : tupV (fun _ => none) H = tupO H := rfl
theorem tupO_same {H : Hp} : Same (tupO H) H := fun a o e => by
  unfold tupO at e
  split at e
  · next q => cases e; exact q
  · cases e
theorem tupO_lt {H : Hp} {a : Addr} {u : HO} (e : tupO H a = some u) : ∃ xs, u = .tup xs := by
  unfold tupO at e
  split at e
  · cases e; exact ⟨_, rfl⟩
  · cases e
def pLf (p : List SV → R PyData) : List SV → R PyData := fun ρ => (p ρ).bind fun d => if lf d = true then .ok d else .bad
def pListF (p : List SV → R (List PyData)) : List SV → R PyData := fun ρ => (p ρ).bind fun xs => if lfAll xs = true then .ok (.list xs) else .bad
def pLst2F (p q : List SV → R PyData) : List SV → R PyData := fun ρ => (p ρ).bind fun a => (q ρ).bind fun b => .ok (.list [a, b])
def pLcF (pi : List SV → R (List PyData)) (g : PyData → List SV → Option (List SV)) (pe : List SV → R PyData) (vs : List Nat) : List SV → R PyData := fun ρ =>
  (pi ρ).bind fun xs => if decide (xs.length < 1000000) = true then (lcGo g (pK true) pe (wipeR ρ vs) xs).bind fun ys => .ok (.list ys) else .bad
def qSetF (i : Nat) (p : List SV → R PyData) : List SV → Fl := fun ρ => bFl (p ρ) ρ fun x => .nx (ρ.set i (.fre x))
def qPoke (i : Nat) : List SV → Fl := fun ρ => match ρ[i]? with
  | some (.fre (.list (.list [.int _, .list ns] :: rest))) => match intsOf ns with
    | some zs => if (decide (zs.length < 1000) && decide (rest.length < 1000) && (ρ.set i .un).all fun s => !isF s) = true then .nx (ρ.set i .jnk) else .bad
    | none => .bad
  | _ => .bad
def qApJ (i : Nat) : List SV → Fl := fun ρ => match ρ[i]? with
  | some .jnk => .nx (ρ.set i .un)
  | _ => .bad
section
variable {c : Cf} {W : WX}
theorem FrP.step {σ : L2.St} {G H G' H' : Hp} {Q : VK} {r : R PyData} (e : Stp G H G' H') (h : FrP c W σ G H Q r) : FrP c W σ G' H' Q r := by
  cases r with
  | ok a => exact fun v Gx G2 H2 e2 q1 q2 q3 q4 => h v Gx G2 H2 (e.trans e2) q1 q2 q3 fun a xs z => ⟨Same.free e.h (q4 a xs z).1, (q4 a xs z).2⟩
  | exc n x => exact fun cls d G2 H2 e2 q => h cls d G2 H2 (e.trans e2) q
  | bad => exact h
theorem sf_lf {te : TE} {p : List SV → R PyData} (h : Sim c rlE te p W) : SimF c te (pLf p) W := fun Ge He ρ σ G H r Q k => by
  refine h _ _ _ _ _ _ r _ ?_
  unfold pLf at k
  cases e : p ρ with
  | ok a =>
    rw [e] at k
    replace k : FrP c W σ G H Q (if lf a = true then .ok a else .bad) := k
    split at k
    · next hl =>
      intro v G' H' s q
      refine k v (tupO H') G' H' s (by rw [← tupO_eq]; exact Rp.lf s.s q hl) tupO_same (fun a u e => ?_) fun a xs e => ?_
      · obtain ⟨_, rfl⟩ := tupO_lt e; rfl
      · obtain ⟨_, z⟩ := tupO_lt e; cases z
    · exact k.elim
  | exc n x => rw [e] at k; exact k
  | bad => rw [e] at k; exact k
theorem sf_list {te : TE} {p : List SV → R (List PyData)} (h : SimN c te p W) : SimF c te (pListF p) W := fun Ge He ρ σ G H r Q k => by
  refine h _ _ _ _ _ _ r _ ?_
  unfold pListF at k
  cases e : p ρ with
  | ok a =>
    rw [e] at k
    replace k : FrP c W σ G H Q (if lfAll a = true then .ok (.list a) else .bad) := k
    split at k
    · next hl =>
      intro l vs G' H' hl0 s gl h1 h2
      have tl : tupO H' l = none := by unfold tupO; rw [h1]
      have sh := Stp.show (o := .lst vs) (tupO_same (H := H')) h1 tl
      have q : RpAll (tupO H') vs a := by rw [← tupO_eq]; exact RpAll.lf s.s h2 hl
      refine k (.ref l) (upd (tupO H') l (.lst vs)) G' H' s (.lst upd_same (q.mono sh.1)) sh.2 (fun b u e => ?_) fun b xs e => ?_
      · by_cases hb : b = l
        · subst hb; rw [upd_same] at e; cases e; rfl
        · rw [upd_ne hb] at e; obtain ⟨_, rfl⟩ := tupO_lt e; rfl
      · by_cases hb : b = l
        · subst hb; exact ⟨hl0, gl⟩
        · rw [upd_ne hb] at e; obtain ⟨_, z⟩ := tupO_lt e; cases z
    · exact k.elim
  | exc n x => rw [e] at k; exact k
  | bad => rw [e] at k; exact k
/-- two worlds together -/
def two (A B : Hp) : Hp := fun a => match B a with
  | some o => some o
  | none => A a
theorem two_r {A B : Hp} : Same B (two A B) := fun a o e => by unfold two; rw [e]
theorem two_l {A B H : Hp} (h1 : Same A H) (h2 : Same B H) : Same A (two A B) := fun a o e => by
  unfold two
  cases q : B a with
  | none => exact e
  | some o' =>
    have := h1 _ _ e
    rw [h2 _ _ q] at this
    exact this
theorem two_s {A B H : Hp} (h1 : Same A H) (h2 : Same B H) : Same (two A B) H := fun a o e => by
  unfold two at e
  split at e
  · next q => cases e; exact h2 _ _ q
  · exact h1 _ _ e
theorem two_at {A B : Hp} {a : Addr} {o : HO} (e : two A B a = some o) : B a = some o ∨ A a = some o := by
  unfold two at e
  split at e
  · next q => cases e; exact .inl q
  · exact .inr e
theorem sf_lst2 {t1 t2 : TE} {p q : List SV → R PyData} (h1 : SimF c t1 p W) (h2 : SimF c t2 q W) : SimF c (tLst (tCons t1 (tCons t2 tNil))) (pLst2F p q) W := fun Ge He ρ σ G H r Q k => by
  refine h1 _ _ _ _ _ _ r _ ?_
  unfold pLst2F at k
  cases e : p ρ with
  | exc n x => rw [e] at k; exact k
  | bad => rw [e] at k; exact k
  | ok a =>
    rw [e] at k
    replace k : FrP c W σ G H Q ((q ρ).bind fun b => .ok (.list [a, b])) := k
    intro v1 Ga G1 H1 s1 a1 a2 a3 a4
    refine h2 _ _ _ _ _ _ (r.mono s1) _ ?_
    cases e2 : q ρ with
    | exc n x => rw [e2] at k; exact fun cls d G' H' s z => k cls d G' H' (s1.trans s) z
    | bad => rw [e2] at k; exact k
    | ok b =>
      rw [e2] at k
      intro v2 Gb G2 H2 s2 b1 b2 b3 b4
      refine ⟨by show 2 ≤ sizeLine; decide, fun l hl => ?_⟩
      have a2' := a2.trans s2.h
      have su := two_s a2' b2
      have ul : two Ga Gb l = none := Same.free su hl
      have st := Stp.hid (o := .lst [v1, v2]) s2.s hl
      have sh := Stp.show (o := .lst [v1, v2]) (su.trans st.h) upd_same ul
      refine k (.ref l) _ G2 _ ((s1.trans s2).trans st) (.lst upd_same (.cons ((a1.mono (two_l a2' b2)).mono sh.1) (.cons ((b1.mono two_r).mono sh.1) .nil))) sh.2 (fun x u e => ?_) fun x xs e => ?_
      · by_cases hx : x = l
        · subst hx; rw [upd_same] at e; cases e; rfl
        · rw [upd_ne hx] at e
          rcases two_at e with e | e
          · exact b3 _ _ e
          · exact a3 _ _ e
      · by_cases hx : x = l
        · subst hx; exact ⟨Same.free (s1.h.trans s2.h) hl, Same.free s2.s hl⟩
        · rw [upd_ne hx] at e
          rcases two_at e with e | e
          · obtain ⟨z1, z2⟩ := b4 _ _ e
            exact ⟨Same.free s1.h z1, z2⟩
          · obtain ⟨z1, z2⟩ := a4 _ _ e
            exact ⟨z1, s2.k _ _ (a2 _ _ e) rfl z2⟩
theorem sf_lc {wi : TI} {g : TG} {te : TE} {pi : List SV → R (List PyData)} {pg : PyData → List SV → Option (List SV)} {ts : List Nat} {pe : List SV → R PyData} {vs : List Nat} (hi : SimI c wi pi W) (hg : SimG c g pg ts) (hts : ∀ j, j ∈ ts → j ∈ vs)
    (he : SimF c te pe (fun _ _ _ _ => False)) : SimF c (tLc wi g tYes te vs) (pLcF pi pg pe vs) W := fun Ge He ρ σ G H r Q k => by
  refine hi _ _ _ _ _ _ r _ ?_
  unfold pLcF at k
  cases e : pi ρ with
  | exc n x => rw [e] at k; exact k
  | bad => rw [e] at k; exact k
  | ok xs =>
    rw [e] at k
    replace k : FrP c W σ G H Q (if decide (xs.length < 1000000) = true then (lcGo pg (pK true) pe (wipeR ρ vs) xs).bind fun ys => .ok (.list ys) else .bad) := k
    split at k
    · next hlen =>
      have hlen := of_decide_eq_true hlen
      intro J G1 H1 s1 hJ D hD
      have gD : G1 D = none := Same.free s1.s hD
      have r1 := (r.mono s1).rebase.wipe vs
      generalize wipeR ρ vs = ρw at k r1
      have hH : hide (upd H1 D (.lst [])) D = H1 := by
        rw [hide_upd]
        funext b
        unfold hide
        split
        · next h => rw [h]; exact hD.symm
        · rfl
      refine ⟨fun i m H2 => m = xs.length - i ∧ i ≤ xs.length ∧ ∃ G2 Ga acc ds, Rep c G1 (mrg G1 He) ρw (L2.wipe σ vs) G2 (hide H2 D) ∧ G2 D = none ∧ Stp G1 H1 G2 (hide H2 D) ∧ H2 D = some (.lst acc) ∧ RpAll Ga acc ds ∧ Same Ga (hide H2 D) ∧ (∀ a u, Ga a = some u → isLT u = true) ∧
        (∀ a xs, Ga a = some (.lst xs) → H1 a = none ∧ G2 a = none) ∧ acc.length ≤ i ∧
        FrP c W σ G H Q ((lcGo pg (pK true) pe ρw (xs.drop i)).bind fun zs => .ok (.list (ds ++ zs))), ⟨_, rfl, Nat.zero_le _, G1, fun _ => none, [], [], by rw [hH]; exact r1, gD, by rw [hH]; exact Stp.refl s1.s, upd_same, .nil, fun a o e => (by cases e), fun a u e => (by cases e), fun a u e => (by cases e), Nat.le_refl _, ?_⟩, ?_⟩
      · rw [List.drop_zero]
        cases ek : lcGo pg (pK true) pe ρw xs with
        | ok zs => rw [ek] at k; exact k
        | exc n x => rw [ek] at k; exact k
        | bad => rw [ek] at k; exact k
      · rintro i m H2 ⟨rfl, hi2, G2, Ga, acc, ds, r2, gD2, s2, hD2, q2, qa, qb, qc, la, k2⟩
        have sG : Same G2 H2 := fun a o h => hide_sub H2 D a o (r2.st.s a o h)
        have sb := hide_back r2.st.s gD2
        by_cases hlt : i < xs.length
        · obtain ⟨go, yl⟩ := hJ.1 i G2 H2 r2.st.g sG hlt
          refine .inr ⟨go, _, fun H' (h : ∃ G2 Ga acc ds, Rep c G1 (mrg G1 He) ρw (L2.wipe σ vs) G2 (hide H' D) ∧ G2 D = none ∧ Stp G1 H1 G2 (hide H' D) ∧ H' D = some (.lst acc) ∧ RpAll Ga acc ds ∧ Same Ga (hide H' D) ∧ (∀ a u, Ga a = some u → isLT u = true) ∧
            (∀ a xs, Ga a = some (.lst xs) → H1 a = none ∧ G2 a = none) ∧ acc.length ≤ i + 1 ∧
            FrP c W σ G H Q ((lcGo pg (pK true) pe ρw (xs.drop (i + 1))).bind fun zs => .ok (.list (ds ++ zs)))) => ⟨xs.length - (i + 1), by omega, rfl, hlt, h⟩, fun x H3 y => ?_⟩
          obtain ⟨G3, d, s3, e3, q3⟩ := yl x H3 y
          have ed : xs.drop i = d :: xs.drop (i + 1) := by
            have h9 : xs[i] = d := by rw [List.getElem?_eq_getElem hlt] at e3; exact Option.some.inj e3
            rw [← h9]
            exact List.drop_eq_getElem_cons hlt
          rw [ed] at k2
          unfold lcGo at k2
          split at k2
          · exact k2.elim
          · next ρ1 eg =>
            have r3 := (r2.mono sb).mono s3
            have sh3 := hide_stp s3 hD2 rfl gD2
            have gD3 := s3.k D _ hD2 rfl gD2
            have hD3 := s3.h D _ hD2
            have r3h := r2.mono sh3
            refine hg _ _ _ _ _ _ _ _ _ r3 q3 eg _ fun σ4 r4 hσ hl => ?_
            refine ⟨?_, ?_⟩
            · refine (wipe_agree (vs := vs) (fun j hj => ?_) (by rw [hl, wipe_length])).trans rfl
              rw [hσ j (fun h => hj (hts j h)), wipe_out hj]
            · show te σ4 H3 _
              replace k2 : FrP c W σ G H Q ((match pe ρ1 with
                | .ok y => (lcGo pg (pK true) pe ρw (xs.drop (i + 1))).bind fun ys => .ok (y :: ys)
                | _ => .bad).bind fun zs => .ok (.list (ds ++ zs))) := k2
              refine he _ _ _ _ _ _ r4 _ ?_
              cases ee : pe ρ1 with
              | exc n x => rw [ee] at k2; exact k2.elim
              | bad => rw [ee] at k2; exact k2.elim
              | ok y =>
                rw [ee] at k2
                intro v Gx G5 H5 s5 b1 b2 b3 b4
                have sh5 := hide_stp s5 hD3 rfl gD3
                have gD5 := s5.k D _ hD3 rfl gD3
                have hD5 := s5.h D _ hD3
                -- the item's world does not hold D
                have xD : Gx D = none := by
                  cases z : Gx D with
                  | none => rfl
                  | some u =>
                    have z2 := b2 _ _ z
                    rw [hD5] at z2
                    cases z2
                    have := (b4 _ _ z).1
                    rw [hD3] at this
                    cases this
                have b2h : Same Gx (hide H5 D) := fun a o e => by
                  rw [hide_ne (fun z => by rw [z, xD] at e; cases e)]
                  exact b2 a o e
                have qa5 := (qa.trans sh3.h).trans sh5.h
                refine ⟨acc, hD5, by rw [PySem.sizeLine_eq]; omega, G5, two Ga Gx, acc ++ [v], ds ++ [y], ?_, gD5, ?_, upd_same, (q2.mono (two_l qa5 b2h)).append (.cons (b1.mono two_r) .nil), ?_, ?_, ?_, by rw [List.length_append]; show acc.length + 1 ≤ i + 1; omega, ?_⟩
                · rw [hide_upd]; exact r3h.mono sh5
                · rw [hide_upd]; exact (s2.trans sh3).trans sh5
                · rw [hide_upd]; exact two_s qa5 b2h
                · intro a u e
                  rcases two_at e with e | e
                  · exact b3 _ _ e
                  · exact qb _ _ e
                · intro a ys e
                  rcases two_at e with e | e
                  · obtain ⟨z1, z2⟩ := b4 _ _ e
                    refine ⟨?_, z2⟩
                    have z3 : hide H3 D a = none := by
                      by_cases h : a = D
                      · rw [h]; exact hide_same
                      · rw [hide_ne h]; exact z1
                    exact Same.free (s2.h.trans sh3.h) z3
                  · obtain ⟨z1, z2⟩ := qc _ _ e
                    exact ⟨z1, sh5.k _ _ (sh3.h _ _ (qa _ _ e)) rfl (sh3.k _ _ (qa _ _ e) rfl z2)⟩
                · replace k2 : FrP c W σ G H Q (((lcGo pg (pK true) pe ρw (xs.drop (i + 1))).bind fun ys => .ok (y :: ys)).bind fun zs => .ok (.list (ds ++ zs))) := k2
                  cases ek : lcGo pg (pK true) pe ρw (xs.drop (i + 1)) with
                  | ok zs =>
                    rw [ek] at k2
                    replace k2 : FrP c W σ G H Q (.ok (.list (ds ++ (y :: zs)))) := k2
                    show FrP c W σ G H Q (.ok (.list ((ds ++ [y]) ++ zs)))
                    rw [List.append_assoc]
                    exact k2
                  | exc n x => rw [ek] at k2; exact k2
                  | bad => rw [ek] at k2; exact k2
        · have : i = xs.length := by omega
          subst this
          rw [List.drop_length] at k2
          replace k2 : FrP c W σ G H Q (.ok (.list (ds ++ []))) := k2
          rw [List.append_nil] at k2
          refine .inl ⟨hJ.2 _ G2 H2 r2.st.g sG (Nat.le_refl _), ?_⟩
          have aD : Ga D = none := by
            cases z : Ga D with
            | none => rfl
            | some u =>
              have := qa _ _ z
              rw [hide_same] at this
              cases this
          have qaH : Same Ga H2 := fun a o e => hide_sub H2 D a o (qa a o e)
          have sh := Stp.show (o := .lst acc) qaH hD2 aD
          refine k2 (.ref D) (upd Ga D (.lst acc)) G2 H2 ((s1.trans s2).trans sb) (.lst upd_same (q2.mono sh.1)) sh.2 (fun b u e => ?_) fun b ys e => ?_
          · by_cases hb : b = D
            · subst hb; rw [upd_same] at e; cases e; rfl
            · rw [upd_ne hb] at e; exact qb _ _ e
          · by_cases hb : b = D
            · subst hb; exact ⟨Same.free s1.h hD, gD2⟩
            · rw [upd_ne hb] at e
              obtain ⟨z1, z2⟩ := qc _ _ e
              exact ⟨Same.free s1.h z1, z2⟩
    · exact k.elim
theorem ss_setF (i : Nat) {te : TE} {pe : List SV → R PyData} (h : SimF c te pe W) : SimS c (tAsg te (gName i)) (qSetF i pe) W := fun Ge He ρ σ G H D r k => by
  refine h _ _ _ _ _ _ r (fun x H1 => gName i x σ H1 D.nx) ?_
  unfold qSetF at k
  cases e : pe ρ with
  | exc n x => rw [e] at k; exact fun cls d G' H' s q => Post.e r k s q
  | bad => rw [e] at k; exact k
  | ok x =>
    rw [e] at k
    intro v Gx G' H' s a1 a2 a3 a4
    exact k _ G' H' ((r.mono s).setF a1 a2 a3 fun a xs e => by
      obtain ⟨z1, z2⟩ := a4 a xs e
      exact ⟨Same.free r.st.h z1, z2, r.noOwn z1⟩)
theorem ss_apJ (i : Nat) {K : PySem.W.Frag} : SimS c (tDrop (tBM K "list" rAppend (tVar i) (tCons (tC (.int 0)) tNil))) (qApJ i) W := fun Ge He ρ σ G H D r k => by
  unfold qApJ at k
  split at k
  · next e =>
    obtain ⟨p, vs, h1, h2, h3, h4, h5⟩ := r.jnk e
    refine ⟨.ref p, h1, .inl ⟨rfl, vs, SqL.of h4⟩, p, vs, .int 0, rfl, rfl, h4, by rw [PySem.sizeLine_eq]; omega, ?_⟩
    exact k σ G _ (r.write ⟨⟨_, e, rfl⟩, h1⟩ trivial rfl)
  · exact k.elim
theorem ss_poke (i : Nat) {K : PySem.W.Frag} : SimS c (tDrop (tBM K "list" rAppend (tOp (rIx K) (tOp (rIx K) (tVar i) (tC (.int 0))) (tC (.int 1))) (tCons (tC (.int 0)) tNil))) (qPoke i) W := fun Ge He ρ σ G H D r k => by
  unfold qPoke at k
  split at k
  · next f ns rest e =>
    split at k
    · next zs ez =>
      split at k
      · next hc =>
        rw [Bool.and_eq_true, Bool.and_eq_true] at hc
        obtain ⟨⟨l1, l2⟩, allF⟩ := hc
        have l1 := of_decide_eq_true l1
        have l2 := of_decide_eq_true l2
        obtain ⟨v, Gx, e1, q, sx, lt, hid⟩ := r.fre i _ e
        have e1 := of_join e1
        cases q with
        | @lst p vs _ hp qs =>
        cases qs with
        | @cons v0 vr _ _ q0 qr =>
        cases q0 with
        | @lst rr ws _ hr qw =>
        cases qw with
        | @cons v1 wr _ _ q1 qw =>
        cases qw with
        | @cons v2 wr _ _ q2 qw =>
        cases qw
        cases q1
        cases q2 with
        | @lst qq us _ hq qu =>
        rw [intsOf_eq ez] at qu
        have := RpAll.ofInts qu
        subst this
        have Hp' := sx _ _ hp
        have Hr := sx _ _ hr
        have Hq := sx _ _ hq
        have ne : p ≠ qq := by
          rintro rfl
          rw [hp] at hq
          have : V.ref rr :: vr = zs.map V.int := HO.lst.inj (Option.some.inj hq)
          cases zs with
          | nil => cases this
          | cons z zs => cases this
        obtain ⟨hq1, hq2, hq3⟩ := hid _ _ hq
        obtain ⟨hp1, hp2, hp3⟩ := hid _ _ hp
        refine ⟨.ref p, e1, .inl ⟨p, _, 0, _, rfl, rfl, SqL.of Hp', atI_nat (j := 0) rfl, .inl ⟨rr, _, 1, _, rfl, rfl, SqL.of Hr, atI_nat (j := 1) rfl, .inl ⟨rfl, _, SqL.of Hq⟩, qq, _, .int 0, rfl, rfl, Hq, by rw [List.length_map, PySem.sizeLine_eq]; omega, ?_⟩⟩⟩
        refine k σ G _ ⟨⟨r.st.g, fun b u z => by rw [upd_ne (ne_of_none z hq1)]; exact r.st.h b u z, fun b u z => by rw [upd_ne (ne_of_none z hq2)]; exact r.st.s b u z, r.st.k⟩, by rw [List.length_set]; exact r.len, fun j t z => ?_, fun a b x ha hb => ?_, fun j x z => ?_⟩
        · by_cases hj : i = j
          · subst hj
            obtain ⟨_, rfl⟩ := set_self z
            rw [e1]
            exact ⟨p, _, rfl, hp1, hp2, by rw [upd_ne ne]; exact Hp', by show vr.length + 1 ≤ 1000000; rw [qr.length]; omega⟩
          · rw [List.getElem?_set_ne hj] at z
            have q := r.slot j t z
            have nq : ∀ p', (σ[j]?).join = some (.ref p') → isO t = true → p' ≠ qq := by
              intro p' h9 ht ep
              rw [ep] at h9
              exact hq3 j ⟨⟨_, z, ht⟩, of_join h9⟩
            cases t with
            | un => trivial
            | d x => exact q
            | ins x => exact q
            | scr x => exact q
            | fre x => trivial
            | own xs =>
              obtain ⟨p', ws, h1, h2, h3, h4, h5⟩ := q
              exact ⟨p', ws, h1, h2, h3, by rw [upd_ne (nq p' h1 rfl)]; exact h4, h5⟩
            | oins a xs =>
              obtain ⟨dx, ws, h1, h2, h3, h4, h5⟩ := q
              exact ⟨dx, ws, h1, h2, h3, by rw [upd_ne (nq a h1 rfl)]; exact h4, h5⟩
            | jnk =>
              obtain ⟨p', ws, h1, h2, h3, h4, h5⟩ := q
              exact ⟨p', ws, h1, h2, h3, by rw [upd_ne (nq p' h1 rfl)]; exact h4, h5⟩
        · have back : ∀ a, a ≠ i → OwnsAt (ρ.set i .jnk) σ a x → OwnsAt ρ σ a x := by
            rintro a hj ⟨⟨t, e3, ht⟩, e4⟩
            rw [List.getElem?_set_ne (Ne.symm hj)] at e3
            exact ⟨⟨t, e3, ht⟩, e4⟩
          have at_i : OwnsAt (ρ.set i .jnk) σ i x → x = p := by
            rintro ⟨_, e4⟩
            rw [e1] at e4
            cases e4; rfl
          by_cases h1 : a = i
          · by_cases h2 : b = i
            · rw [h1, h2]
            · subst h1
              have := at_i ha
              subst this
              exact absurd (back b h2 hb) (hp3 b)
          · by_cases h2 : b = i
            · subst h2
              have := at_i hb
              subst this
              exact absurd (back a h1 ha) (hp3 a)
            · exact r.sep a b x (back a h1 ha) (back b h2 hb)
        · by_cases hj : i = j
          · subst hj
            obtain ⟨_, z2⟩ := set_self z
            cases z2
          · rw [List.getElem?_set_ne hj] at z
            have z3 : (ρ.set i .un)[j]? = some (.fre x) := by rw [List.getElem?_set_ne hj]; exact z
            have := List.all_eq_true.mp allF _ (List.mem_of_getElem? z3)
            cases this
      · exact k.elim
    · exact k.elim
  · exact k.elim
end
section
variable {X : Cx} {c : Cf} {W : WX} {e ea eb : Expr} {te ta tb : TE} {i : Nat} {pos : Pos}
structure XF (X : Cx) (c : Cf) (W : WX) (e : Expr) (te : TE) (p : List SV → R PyData) : Prop where
  pe : PE X e te
  sim : SimF c te p W
theorem f_lf {p : List SV → R PyData} (a : XE X c W rlE e te p) : XF X c W e te (pLf p) := ⟨a.pe, sf_lf a.sim⟩
theorem f_n {p : List SV → R (List PyData)} (a : XN X c W e te p) : XF X c W e te (pListF p) := ⟨a.pe, sf_list a.sim⟩
theorem f_lst2 {p q : List SV → R PyData} (a : XF X c W ea ta p) (b : XF X c W eb tb q) (hs : starEach [ea, eb] X.env = (false, eval ea X.env) :: starEach [eb] X.env := by rfl) (hs2 : starEach [eb] X.env = (false, eval eb X.env) :: starEach [] X.env := by rfl) :
    XF X c W (.List [ea, eb] pos) (tLst (tCons ta (tCons tb tNil))) (pLst2F p q) := ⟨pe_lst (pa_cons a.pe (pa_cons b.pe pa_nil hs2) hs), sf_lst2 a.sim b.sim⟩
section
variable {elt tg iter : Expr} {scope : Scope} {own : List (Str × Nat)} {wi : TI} {g : Bl TG} {te : Bl TE} {pi : List SV → R (List PyData)} {pg : PyData → List SV → Option (List SV)} {ts : List Nat} {pe : List SV → R PyData}
theorem s_setLcF {vs : List Nat} {y : Str} {py spos : Pos} (hvs : own.map (·.2) = vs) (hc : X.calm = true) (hN : X.N.Nodup) (hy : X.N[i]? = some y) (hyl : X.env.scope.names.lookup y = some .local) (hsw : swapsWith (.ListComp elt [⟨tg, iter, [], 0⟩] scope pos) (some (.Name y py)) spos.line X.env = pure true) (hi : XI X c W tg iter wi pi) (ok : BlkOk X.N X.env.scope scope own)
    (hg : ∀ (s : Shared) (H : Hp) (C : Addr) (cl : List (Str × Addr)) (fp : List Addr), XG (X.blk s H scope (compEnvC scope cl C X.env) fp) c tg (g s H C cl fp) pg ts) (hts : ∀ j, j ∈ ts → j ∈ vs)
    (he : ∀ (s : Shared) (H : Hp) (C : Addr) (cl : List (Str × Addr)) (fp : List Addr), XF (X.blk s H scope (compEnvC scope cl C X.env) fp) c W0 elt (te s H C cl fp) pe)
    (eg : ∀ s H C cl fp, g s H C cl fp = g X.s_0 X.H_0 0 [] [] := by intros; rfl) (ee : ∀ s H C cl fp, te s H C cl fp = te X.s_0 X.H_0 0 [] [] := by intros; rfl)
    (hs : ∀ x, foldedSetIterable iter X.env x = pure x := by intro _; rfl) :
    XS X c W (.Assign [.Name y py] (.ListComp elt [⟨tg, iter, [], 0⟩] scope pos) spos) (tAsg (tLc wi (g X.s_0 X.H_0 0 [] []) tYes (te X.s_0 X.H_0 0 [] []) vs) (gName i)) (qSetF i (pLcF pi pg pe vs)) := by
  subst hvs
  exact ⟨ps_setLc hc hN hy hyl hsw hi.pi ok (fun s H C cl fp => by rw [← eg s H C cl fp]; exact (hg s H C cl fp).pgt) (fun s H C cl fp => pts_nil) (fun s H C cl fp => by rw [← ee s H C cl fp]; exact (he s H C cl fp).pe) hs,
    ss_setF i (sf_lc hi.sim (hg X.s_0 X.H_0 0 [] []).sim hts (he X.s_0 X.H_0 0 [] []).sim)⟩
end
/-- y.append(0) of such a list, y[0][1].append(0) -/
theorem s_apJ {o : Expr} {apos cpos p' : Pos} {kk : Nat} (i : Nat) (ho : PE X o (tVar i)) (hs1 : starEach (.Constant (.int 0) kk p' :: []) X.env = (false, eval (.Constant (.int 0) kk p') X.env) :: starEach [] X.env := by rfl) (hbase : attributeBase o "append" X.env (eval o X.env) = eval o X.env := by rfl)
    (hfew : ((backTo cpos (starEach (.Constant (.int 0) kk p' :: []) X.env)).all (fun x => !x.1) && (backToKw cpos (keywordEach [] X.env)).all (fun x => x.1.isSome)
      && decide ((Expr.Constant (.int 0) kk p' :: []).length + ([] : List Keyword).length + (if ([] : List Keyword).isEmpty then 0 else 1) < 30)) = true := by rfl)
    (hline : (apos.endLine == cpos.line) = true := by rfl) (hplain : (backTo cpos (starEach [] X.env)).any (·.1) = false := by rfl) (hs : swapsWith (.Call (.Attribute o "append" apos) [.Constant (.int 0) kk p'] [] cpos) none pos.line X.env = pure false := by rfl) :
    XS X c W (.Expr (.Call (.Attribute o "append" apos) [.Constant (.int 0) kk p'] [] cpos) pos) (tDrop (tBM X.K "list" rAppend (tVar i) (tCons (tC (.int 0)) tNil))) (qApJ i) :=
  ⟨ps_expr (pe_bm PySem.F.plainAttrs_list PySem.F.slot_list_append PySem.F.type_list_append mt_append ho (pa_cons pe_int pa_nil hs1) hbase hfew hline hs1 hplain) hs, ss_apJ i⟩
theorem s_poke {o : Expr} {apos cpos p' : Pos} {kk : Nat} (i : Nat) (ho : PE X o (tOp (rIx X.K) (tOp (rIx X.K) (tVar i) (tC (.int 0))) (tC (.int 1)))) (hs1 : starEach (.Constant (.int 0) kk p' :: []) X.env = (false, eval (.Constant (.int 0) kk p') X.env) :: starEach [] X.env := by rfl) (hbase : attributeBase o "append" X.env (eval o X.env) = eval o X.env := by rfl)
    (hfew : ((backTo cpos (starEach (.Constant (.int 0) kk p' :: []) X.env)).all (fun x => !x.1) && (backToKw cpos (keywordEach [] X.env)).all (fun x => x.1.isSome)
      && decide ((Expr.Constant (.int 0) kk p' :: []).length + ([] : List Keyword).length + (if ([] : List Keyword).isEmpty then 0 else 1) < 30)) = true := by rfl)
    (hline : (apos.endLine == cpos.line) = true := by rfl) (hplain : (backTo cpos (starEach [] X.env)).any (·.1) = false := by rfl) (hs : swapsWith (.Call (.Attribute o "append" apos) [.Constant (.int 0) kk p'] [] cpos) none pos.line X.env = pure false := by rfl) :
    XS X c W (.Expr (.Call (.Attribute o "append" apos) [.Constant (.int 0) kk p'] [] cpos) pos) (tDrop (tBM X.K "list" rAppend (tOp (rIx X.K) (tOp (rIx X.K) (tVar i) (tC (.int 0))) (tC (.int 1))) (tCons (tC (.int 0)) tNil))) (qPoke i) :=
  ⟨ps_expr (pe_bm PySem.F.plainAttrs_list PySem.F.slot_list_append PySem.F.type_list_append mt_append ho (pa_cons pe_int pa_nil hs1) hbase hfew hline hs1 hplain) hs, ss_poke i⟩
end
end Sm

set_option Elab.async false
set_option linter.all false
set_option maxRecDepth 100000
set_option maxHeartbeats 4000000
/-! the plain functions of the text -/
namespace K70
open PySem L2 Sm
/-- is_whole(thing): slots thing 0 -/
def q_is_whole : List SV → Fl :=
  (qRet (pAndV (p1 (fIsi "int") (pRaw 0)) (pNotV (p1 (fIsi "bool") (pRaw 0)))))
def p_is_whole : List SV → R PyData := runF 1 1 q_is_whole
/-- is_life(thing): slots thing 0, first 1, lengths 2, place 3, length 4 -/
def q_is_life : List SV → Fl :=
  (qSeq (qIf (pOrT (pNotT (pTest (p1 (fIsi2 "tuple" "list") (pRaw 0)))) (pTest (p2 fNe (p1 fLen (pSq 0)) (pK (.int 2))))) (qRet (pK (.bool false))) qNext)
  (qSeq (qTgt (gNames [1, 2]) (pV 0))
  (qSeq (qIf (pOrT (pNotT (pTest (pCall p_is_whole (pCons (pArg 1) pNil)))) (pTest (p2 fLt (pV 1) (pK (.int 0))))) (qRet (pK (.bool false))) qNext)
  (qSeq (qIf (pOrT (pNotT (pTest (p1 (fIsi2 "tuple" "list") (pRaw 2)))) (pTest (p2 fEq (p1 fLen (pSq 2)) (pK (.int 0))))) (qRet (pK (.bool false))) qNext)
  (qSeq (qFor (iEn (pV 2)) (gNames [3, 4]) (qSeq (qIf (pOrT (pNotT (pTest (pCall p_is_whole (pCons (pArg 4) pNil)))) (pTest (p2 fLt (pV 4) (pK (.int 0))))) (qRet (pK (.bool false))) qNext)
  (qIf (pAndT (pTest (p2 fGt (pV 3) (pK (.int 0)))) (pTest (p2 fGt (pV 4) (p2 fIx (pSq 2) (p2 fSub (pV 3) (pK (.int 1))))))) (qRet (pK (.bool false))) qNext)))
  (qRet (pK (.bool true))))))))
def p_is_life : List SV → R PyData := runF 1 5 q_is_life
/-- __init__(self, lives): slots self 0, lives 1, kept 2, earlier 3, place 4, life 5 -/
def q_m_uinit : List SV → Fl :=
  (qSeq (qIf (pOrT (pNotT (pTest (p1 (fIsi2 "tuple" "list") (pRaw 1)))) (pTest (p2 fEq (p1 fLen (pSq 1)) (pK (.int 0))))) (qRaise 1 (pK (.int 0))) qNext)
  (qSeq (qSetN 2 (pLst pNil))
  (qSeq (qSet 3 (pK (.int 0)))
  (qSeq (qFor (iEn (pV 1)) (gNames [4, 5]) (qSeq (qIf (pOrT (pNotT (pTest (pCall p_is_life (pCons (pArg 5) pNil)))) (pTest (p2 fLt (p2 fIx (pSq 5) (pK (.int 0))) (pV 3)))) (qRaise 1 (pV 4)) qNext)
  (qSeq (qSet 3 (p2 fIx (pSq 5) (pK (.int 0))))
  (qSeq (qIf (pTest (p2 fEq (pRaw 4) (pK (.int 24)))) (qRaise 1 (pV 4)) qNext)
  (qApp 2 (pTup (pCons (pD (p2 fIx (pSq 5) (pK (.int 0)))) (pCons (pD (p1 fTuple (pSeqOf (p2 fIx (pSq 5) (pK (.int 1)))))) pNil))))))))
  (qSeq (qOfld 0 0 (p1 fTuple (pSq 2)))
  (qOfld 0 1 (p1 fLen (pSq 2))))))))
def p_m_uinit : List SV → R (List PyData) := runI 2 6 q_m_uinit 0
/-- check_block(self, name, number): slots self 0, name 1, number 2 -/
def q_m_check_block : List SV → Fl :=
  (qIf (pOrT (pNotT (pTest (pCall p_is_whole (pCons (pArg 2) pNil)))) (pNotT (pTest (pChain fLe fLt (pK (.int 0)) (pV 2) (pFld 1 (pObj 0)))))) (qRaise 0 (pV 1)) qNext)
def p_m_check_block : List SV → R PyData := runF 3 3 q_m_check_block
/-- ending(life): slots life 0 -/
def q_ending : List SV → Fl :=
  (qRet (p2 fAdd (p2 fIx (pSq 0) (pK (.int 0))) (p1 fLen (pSeqOf (p2 fIx (pSq 0) (pK (.int 1)))))))
def p_ending : List SV → R PyData := runF 1 1 q_ending
/-- first_meeting(lives, b, c): slots lives 0, b 1, c 2, moment 3 -/
def q_first_meeting : List SV → Fl :=
  (qSeq (qSet 3 (p2 fMax2 (p2 fIx (pSeqOf (p2 fIx (pSq 0) (pV 1))) (pK (.int 0))) (p2 fIx (pSeqOf (p2 fIx (pSq 0) (pV 2))) (pK (.int 0)))))
  (qSeq (qIf (pOrT (pTest (p2 fEq (pRaw 1) (pRaw 2))) (pTest (p2 fGe (pV 3) (p2 fMin2 (pCall p_ending (pCons (pD (p2 fIx (pSq 0) (pV 1))) pNil)) (pCall p_ending (pCons (pD (p2 fIx (pSq 0) (pV 2))) pNil)))))) (qRet (p1 fNeg (pK (.int 1)))) qNext)
  (qRet (pV 3))))
def p_first_meeting : List SV → R PyData := runF 3 4 q_first_meeting
/-- meeting(self, b, c): slots self 0, b 1, c 2 -/
def q_m_meeting : List SV → Fl :=
  (qSeq (qDrop (pMeth p_m_check_block (pObj 0) (pCons (pD (pK (.str "b"))) (pCons (pArg 1) pNil))))
  (qSeq (qDrop (pMeth p_m_check_block (pObj 0) (pCons (pD (pK (.str "c"))) (pCons (pArg 2) pNil))))
  (qRet (pCall p_first_meeting (pCons (pD (pFld 0 (pObj 0))) (pCons (pArg 1) (pCons (pArg 2) pNil)))))))
def p_m_meeting : List SV → R PyData := runF 3 3 q_m_meeting
/-- length_then(self, b, moment): slots self 0, b 1, moment 2, first 3, lengths 4 -/
def q_m_length_then : List SV → Fl :=
  (qSeq (qDrop (pMeth p_m_check_block (pObj 0) (pCons (pD (pK (.str "b"))) (pCons (pArg 1) pNil))))
  (qSeq (qTgt (gNames [3, 4]) (p2 fIx (pSeqOf (pFld 0 (pObj 0))) (pV 1)))
  (qSeq (qIf (pOrT (pNotT (pTest (pCall p_is_whole (pCons (pArg 2) pNil)))) (pNotT (pTest (pChain fLe fLt (pV 3) (pV 2) (p2 fAdd (pV 3) (p1 fLen (pSq 4))))))) (qRaise 0 (pK (.str "moment"))) qNext)
  (qRet (p2 fIx (pSq 4) (p2 fSub (pV 2) (pV 3)))))))
def p_m_length_then : List SV → R PyData := runF 3 5 q_m_length_then
/-- meeting_length(lives, b, c): slots lives 0, b 1, c 2, first 3, lengths 4 -/
def q_meeting_length : List SV → Fl :=
  (qSeq (qTgt (gNames [3, 4]) (p2 fIx (pSq 0) (pV 1)))
  (qRet (p2 fIx (pSq 4) (p2 fSub (pCall p_first_meeting (pCons (pArg 0) (pCons (pArg 1) (pCons (pArg 2) pNil)))) (pV 3)))))
def p_meeting_length : List SV → R PyData := runF 3 5 q_meeting_length
/-- len_pair(self, b, c): slots self 0, b 1, c 2 -/
def q_m_len_pair : List SV → Fl :=
  (qSeq (qIf (pTest (p2 fEq (pMeth p_m_meeting (pObj 0) (pCons (pArg 1) (pCons (pArg 2) pNil))) (p1 fNeg (pK (.int 1))))) (qRaise 1 (pK (.int 0))) qNext)
  (qRet (pCall p_meeting_length (pCons (pD (pFld 0 (pObj 0))) (pCons (pArg 1) (pCons (pArg 2) pNil))))))
def p_m_len_pair : List SV → R PyData := runF 3 3 q_m_len_pair
/-- meeting_pairs(lives): slots lives 0, found 1, b 2, c 3 -/
def q_meeting_pairs : List SV → Fl :=
  (qSeq (qSetN 1 (pLst pNil))
  (qSeq (qFor (iRg1 (p1 fLen (pSq 0))) (gName1 2) (qFor (iRg2 (p2 fAdd (pV 2) (pK (.int 1))) (p1 fLen (pSq 0))) (gName1 3) (qIf (pTest (p2 fGe (pCall p_first_meeting (pCons (pArg 0) (pCons (pArg 2) (pCons (pArg 3) pNil)))) (pK (.int 0)))) (qApp 1 (pTup (pCons (pArg 2) (pCons (pArg 3) pNil)))) qNext)))
  (qRet (p1 fTuple (pSq 1)))))
def p_meeting_pairs : List SV → R PyData := runF 1 4 q_meeting_pairs
/-- pairs(self): slots self 0 -/
def q_m_pairs : List SV → Fl :=
  (qRet (pCall p_meeting_pairs (pCons (pD (pFld 0 (pObj 0))) pNil)))
def p_m_pairs : List SV → R PyData := runF 1 1 q_m_pairs
/-- lengths_then(lives, moment): slots lives 0, moment 1, found 2, first 3, lengths 4 -/
def q_lengths_then : List SV → Fl :=
  (qSeq (qSetN 2 (pLst pNil))
  (qSeq (qFor (iSq (pV 0)) (gNames [3, 4]) (qIf (pTest (pChain fLe fLt (pV 3) (pV 1) (p2 fAdd (pV 3) (p1 fLen (pSq 4))))) (qApp 2 (p2 fIx (pSq 4) (p2 fSub (pV 1) (pV 3)))) qNext))
  (qFrz 2 (qRet (pV 2)))))
def p_lengths_then : List SV → R PyData := runF 2 5 q_lengths_then
/-- heaviest(self): slots self 0, best 1, first 2, lengths 3, total 4 -/
def q_m_heaviest : List SV → Fl :=
  (qSeq (qSet 1 (pTup (pCons (pD (pK (.int 0))) (pCons (pD (p1 fNeg (pK (.int 1)))) pNil))))
  (qSeq (qFor (iSq (pFld 0 (pObj 0))) (gNames [2, 3]) (qSeq (qSet 4 (p1 fSum (pSeqOf (pCall p_lengths_then (pCons (pD (pFld 0 (pObj 0))) (pCons (pArg 2) pNil))))))
  (qIf (pTest (p2 fGt (pV 4) (p2 fIx (pSq 1) (pK (.int 1))))) (qSet 1 (pTup (pCons (pArg 2) (pCons (pArg 4) pNil)))) qNext)))
  (qRet (pV 1))))
def p_m_heaviest : List SV → R PyData := runF 1 5 q_m_heaviest
/-- wrong_start(blocks, starts): slots blocks 0, starts 1, place 2, start 3 -/
def q_wrong_start : List SV → Fl :=
  (qSeq (qIf (pNotT (pTest (p1 (fIsi2 "tuple" "list") (pRaw 1)))) (qRet (pK (.int 0))) qNext)
  (qSeq (qFor (iEn (pV 1)) (gNames [2, 3]) (qIf (pOrT (pTest (p2 fGe (pV 2) (pFld 1 (pObj 0)))) (pOrT (pNotT (pTest (pCall p_is_whole (pCons (pArg 3) pNil)))) (pTest (p2 fLt (pV 3) (pK (.int 0)))))) (qRet (pV 2)) qNext))
  (qRet (pIf (pTest (p2 fEq (p1 fLen (pSq 1)) (pFld 1 (pObj 0)))) (p1 fNeg (pK (.int 1))) (p1 fLen (pSq 1))))))
def p_wrong_start : List SV → R PyData := runF 2 4 q_wrong_start
/-- apart(start, length, other, taken): slots start 0, length 1, other 2, taken 3 -/
def q_apart : List SV → Fl :=
  (qRet (pOrV (p2 fLe (p2 fAdd (pV 0) (pV 1)) (pV 2)) (p2 fLe (p2 fAdd (pV 2) (pV 3)) (pV 0))))
def p_apart : List SV → R PyData := runF 4 4 q_apart
/-- is_placing(blocks, starts): slots blocks 0, starts 1, b 2, c 3, last 4, moment 5 -/
def q_is_placing : List SV → Fl :=
  (qSeq (qIf (pTest (p2 fNe (pCall p_wrong_start (pCons (pArg 0) (pCons (pArg 1) pNil))) (p1 fNeg (pK (.int 1))))) (qRet (pK (.bool false))) qNext)
  (qSeq (qFor (iSq (pMeth p_m_pairs (pObj 0) pNil)) (gNames [2, 3]) (qSeq (qSet 4 (p2 fMin2 (pCall p_ending (pCons (pD (p2 fIx (pSeqOf (pFld 0 (pObj 0))) (pV 2))) pNil)) (pCall p_ending (pCons (pD (p2 fIx (pSeqOf (pFld 0 (pObj 0))) (pV 3))) pNil))))
  (qFor (iRg2 (pMeth p_m_meeting (pObj 0) (pCons (pArg 2) (pCons (pArg 3) pNil))) (pV 4)) (gName1 5) (qIf (pNotT (pTest (pCall p_apart (pCons (pD (p2 fIx (pSq 1) (pV 2))) (pCons (pD (pMeth p_m_length_then (pObj 0) (pCons (pArg 2) (pCons (pArg 5) pNil)))) (pCons (pD (p2 fIx (pSq 1) (pV 3))) (pCons (pD (pMeth p_m_length_then (pObj 0) (pCons (pArg 3) (pCons (pArg 5) pNil)))) pNil))))))) (qRet (pK (.bool false))) qNext))))
  (qRet (pK (.bool true)))))
def p_is_placing : List SV → R PyData := runF 2 6 q_is_placing
/-- apart_pairs(blocks, starts): slots blocks 0, starts 1, b 2, c 3 -/
def q_apart_pairs : List SV → Fl :=
  (qSeq (qIf (pTest (p2 fNe (pCall p_wrong_start (pCons (pArg 0) (pCons (pArg 1) pNil))) (p1 fNeg (pK (.int 1))))) (qRet (pK (.bool false))) qNext)
  (qSeq (qFor (iSq (pMeth p_m_pairs (pObj 0) pNil)) (gNames [2, 3]) (qIf (pNotT (pTest (pCall p_apart (pCons (pD (p2 fIx (pSq 1) (pV 2))) (pCons (pD (pMeth p_m_len_pair (pObj 0) (pCons (pArg 2) (pCons (pArg 3) pNil)))) (pCons (pD (p2 fIx (pSq 1) (pV 3))) (pCons (pD (pMeth p_m_len_pair (pObj 0) (pCons (pArg 3) (pCons (pArg 2) pNil)))) pNil))))))) (qRet (pK (.bool false))) qNext))
  (qRet (pK (.bool true)))))
def p_apart_pairs : List SV → R PyData := runF 2 4 q_apart_pairs
/-- end_of(blocks, starts): slots blocks 0, starts 1, place 2, b 3, start 4 -/
def q_end_of : List SV → Fl :=
  (qSeq (qSet 2 (pCall p_wrong_start (pCons (pArg 0) (pCons (pArg 1) pNil))))
  (qSeq (qIf (pTest (p2 fNe (pRaw 2) (p1 fNeg (pK (.int 1))))) (qRaise 1 (pV 2)) qNext)
  (qRet (p1 fMaxL (pSeqOf (pList (pLc (iEn (pV 1)) (gNames [3, 4]) (pK true) (p2 fAdd (pV 4) (p2 fIx (pSeqOf (p2 fIx (pSeqOf (p2 fIx (pSeqOf (pFld 0 (pObj 0))) (pV 3))) (pK (.int 1)))) (pK (.int 0)))) [3, 4])))))))
def p_end_of : List SV → R PyData := runF 2 5 q_end_of
/-- _law_draws(script): slots script 0, drawn 1, cell 2, left 3, turn 4 -/
def q_u_law_draws : List SV → Fl :=
  (qSeq (qSetN 1 (pLst pNil))
  (qSeq (qFor (iSq (pList (pSl fSlS (pScr 0) pNoPart (pPart (pK (.int 63)))))) (gName1 2) (qSeq (qSet 3 (p1 fAbs (p1 fInt1 (pV 2))))
  (qFor (iRg1 (pK (.int 18))) (gName1 4) (qSeq (qApp 1 (p2 fMod (p1 fInt1 (pV 3)) (pK (.int 10))))
  (qSeq (qSet 3 (p2 fDiv (pV 3) (pK (.int 10))))
  (qIf (pTest (p2 fEq (pRaw 3) (pK (.int 0)))) qBrk qNext))))))
  (qFrz 1 (qRet (pV 1)))))
def p_u_law_draws : List SV → R PyData := runF 1 5 q_u_law_draws
/-- _law_pick(drawn, at, many): slots drawn 0, at 1, many 2 -/
def q_u_law_pick : List SV → Fl :=
  (qSeq (qIf (pAndT (pTest (p2 fLt (p2 fAdd (pV 1) (pK (.int 1))) (p1 fLen (pSq 0)))) (pTest (p2 fGt (pV 2) (pK (.int 10))))) (qRet (p2 fMod (p1 fInt1 (p2 fAdd (p2 fMul (p2 fIx (pSq 0) (pV 1)) (pK (.int 10))) (p2 fIx (pSq 0) (p2 fAdd (pV 1) (pK (.int 1)))))) (pV 2))) qNext)
  (qSeq (qIf (pTest (p2 fLt (pV 1) (p1 fLen (pSq 0)))) (qRet (p2 fMod (p1 fInt1 (p2 fIx (pSq 0) (pV 1))) (pV 2))) qNext)
  (qRet (pK (.int 0)))))
def p_u_law_pick : List SV → R PyData := runF 3 3 q_u_law_pick
/-- _law_far(drawn, at): slots drawn 0, at 1, number 2, step 3 -/
def q_u_law_far : List SV → Fl :=
  (qSeq (qSet 2 (pK (.int 0)))
  (qSeq (qFor (iRg1 (pK (.int 29))) (gName1 3) (qSet 2 (p2 fAdd (p2 fMul (pV 2) (pK (.int 10))) (pCall p_u_law_pick (pCons (pArg 0) (pCons (pD (p2 fAdd (pV 1) (pV 3))) (pCons (pD (pK (.int 10))) pNil)))))))
  (qRet (pV 2))))
def p_u_law_far : List SV → R PyData := runF 2 4 q_u_law_far
/-- _law_lives(drawn, many, unit): slots drawn 0, many 1, unit 2, lives 3, first 4, b 5, at 6, length 7, lengths 8, moment 9 -/
def q_u_law_lives : List SV → Fl :=
  (qSeq (qSetN 3 (pLst pNil))
  (qSeq (qSet 4 (pCall p_u_law_pick (pCons (pArg 0) (pCons (pD (pK (.int 4))) (pCons (pD (pK (.int 3))) pNil)))))
  (qSeq (qFor (iRg1 (pV 1)) (gName1 5) (qSeq (qSet 6 (p2 fAdd (pK (.int 5)) (p2 fMul (pK (.int 8)) (pV 5))))
  (qSeq (qSet 4 (p2 fAdd (pV 4) (pCall p_u_law_pick (pCons (pArg 0) (pCons (pArg 6) (pCons (pD (pK (.int 3))) pNil))))))
  (qSeq (qSet 7 (pCall p_u_law_pick (pCons (pArg 0) (pCons (pD (p2 fAdd (pV 6) (pK (.int 1)))) (pCons (pD (pK (.int 8))) pNil)))))
  (qSeq (qSetN 8 (pLst pNil))
  (qSeq (qFor (iRg1 (p2 fAdd (pK (.int 1)) (pCall p_u_law_pick (pCons (pArg 0) (pCons (pD (p2 fAdd (pV 6) (pK (.int 2)))) (pCons (pD (pK (.int 5))) pNil)))))) (gName1 9) (qSeq (qApp 8 (p2 fMul (pV 7) (pV 2)))
  (qSet 7 (p2 fMax2 (pK (.int 0)) (p2 fSub (pV 7) (p2 fIx (pSeqOf (pList (pLst (pCons (pD (pK (.int 0))) (pCons (pD (pK (.int 0))) (pCons (pD (pK (.int 1))) (pCons (pD (pK (.int 3))) pNil))))))) (pCall p_u_law_pick (pCons (pArg 0) (pCons (pD (p2 fAdd (p2 fAdd (pV 6) (pK (.int 3))) (pV 9))) (pCons (pD (pK (.int 4))) pNil))))))))))
  (qApp 3 (pTup (pCons (pArg 4) (pCons (pD (p1 fTuple (pSq 8))) pNil))))))))))
  (qFrz 3 (qRet (pV 3))))))
def p_u_law_lives : List SV → R PyData := runF 3 10 q_u_law_lives
/-- _law_length(life, moment): slots life 0, moment 1 -/
def q_u_law_length : List SV → Fl :=
  (qSeq (qIf (pOrT (pTest (p2 fLt (pV 1) (p2 fIx (pSq 0) (pK (.int 0))))) (pTest (p2 fGe (pV 1) (p2 fAdd (p2 fIx (pSq 0) (pK (.int 0))) (p1 fLen (pSeqOf (p2 fIx (pSq 0) (pK (.int 1))))))))) (qRet (p1 fNeg (pK (.int 1)))) qNext)
  (qRet (p2 fIx (pSeqOf (p2 fIx (pSq 0) (pK (.int 1)))) (p2 fSub (pV 1) (p2 fIx (pSq 0) (pK (.int 0)))))))
def p_u_law_length : List SV → R PyData := runF 2 2 q_u_law_length
/-- _law_meeting(lives, b, c): slots lives 0, b 1, c 2, moment 3 -/
def q_u_law_meeting : List SV → Fl :=
  (qSeq (qIf (pTest (p2 fEq (pRaw 1) (pRaw 2))) (qRet (p1 fNeg (pK (.int 1)))) qNext)
  (qSeq (qFor (iRg1 (pK (.int 40))) (gName1 3) (qIf (pAndT (pTest (p2 fGe (pCall p_u_law_length (pCons (pD (p2 fIx (pSq 0) (pV 1))) (pCons (pArg 3) pNil))) (pK (.int 0)))) (pTest (p2 fGe (pCall p_u_law_length (pCons (pD (p2 fIx (pSq 0) (pV 2))) (pCons (pArg 3) pNil))) (pK (.int 0))))) (qRet (pV 3)) qNext))
  (qRet (p1 fNeg (pK (.int 1))))))
def p_u_law_meeting : List SV → R PyData := runF 3 4 q_u_law_meeting
/-- _law_apart(lives, starts, moment): slots lives 0, starts 1, moment 2, b 3, c 4, one 5, two 6 -/
def q_u_law_apart : List SV → Fl :=
  (qSeq (qFor (iRg1 (p1 fLen (pSq 0))) (gName1 3) (qFor (iRg1 (pV 3)) (gName1 4) (qSeq (qSet 5 (pCall p_u_law_length (pCons (pD (p2 fIx (pSq 0) (pV 3))) (pCons (pArg 2) pNil))))
  (qSeq (qSet 6 (pCall p_u_law_length (pCons (pD (p2 fIx (pSq 0) (pV 4))) (pCons (pArg 2) pNil))))
  (qIf (pAndT (pTest (p2 fGe (pV 5) (pK (.int 0)))) (pAndT (pTest (p2 fGe (pV 6) (pK (.int 0)))) (pAndT (pTest (p2 fGt (p2 fAdd (p2 fIx (pSq 1) (pV 3)) (pV 5)) (p2 fIx (pSq 1) (pV 4)))) (pTest (p2 fGt (p2 fAdd (p2 fIx (pSq 1) (pV 4)) (pV 6)) (p2 fIx (pSq 1) (pV 3))))))) (qRet (pK (.bool false))) qNext)))))
  (qRet (pK (.bool true))))
def p_u_law_apart : List SV → R PyData := runF 3 7 q_u_law_apart
/-- _law_placed(lives, starts): slots lives 0, starts 1, moment 2 -/
def q_u_law_placed : List SV → Fl :=
  (qSeq (qFor (iRg1 (pK (.int 40))) (gName1 2) (qIf (pNotT (pTest (pCall p_u_law_apart (pCons (pArg 0) (pCons (pArg 1) (pCons (pArg 2) pNil)))))) (qRet (pK (.bool false))) qNext))
  (qRet (pK (.bool true))))
def p_u_law_placed : List SV → R PyData := runF 2 3 q_u_law_placed
/-- _law_heaviest(lives): slots lives 0, best 1, moment 2, total 3, there 4, life 5 -/
def q_u_law_heaviest : List SV → Fl :=
  (qSeq (qSet 1 (pTup (pCons (pD (pK (.int 0))) (pCons (pD (p1 fNeg (pK (.int 1)))) pNil))))
  (qSeq (qFor (iRg1 (pK (.int 40))) (gName1 2) (qSeq (qSet 3 (pK (.int 0)))
  (qSeq (qSet 4 (pK (.bool false)))
  (qSeq (qFor (iSq (pV 0)) (gName1 5) (qIf (pTest (p2 fGe (pCall p_u_law_length (pCons (pArg 5) (pCons (pArg 2) pNil))) (pK (.int 0)))) (qSeq (qSet 4 (pK (.bool true)))
  (qSet 3 (p2 fAdd (pV 3) (pCall p_u_law_length (pCons (pArg 5) (pCons (pArg 2) pNil)))))) qNext))
  (qIf (pAndT (pTest (pV 4)) (pTest (p2 fGt (pV 3) (p2 fIx (pSq 1) (pK (.int 1)))))) (qSet 1 (pTup (pCons (pArg 2) (pCons (pArg 3) pNil)))) qNext)))))
  (qRet (pV 1))))
def p_u_law_heaviest : List SV → R PyData := runF 1 6 q_u_law_heaviest
/-- _law_end(lives, starts): slots lives 0, starts 1, end 2, b 3 -/
def q_u_law_end : List SV → Fl :=
  (qSeq (qSet 2 (pK (.int 0)))
  (qSeq (qFor (iRg1 (p1 fLen (pSq 0))) (gName1 3) (qSet 2 (p2 fMax2 (pV 2) (p2 fAdd (p2 fIx (pSq 1) (pV 3)) (p2 fIx (pSeqOf (p2 fIx (pSeqOf (p2 fIx (pSq 0) (pV 3))) (pK (.int 1)))) (pK (.int 0)))))))
  (qRet (pV 2))))
def p_u_law_end : List SV → R PyData := runF 2 4 q_u_law_end
/-- _law_number(blocks, asked, b, c): slots blocks 0, asked 1, b 2, c 3, name 4, e 5 -/
def q_u_law_number : List SV → Fl :=
  (qSeq (qSet 4 (pK (.str "")))
  (qSeq (qTry 0 5 4 (qIf (pTest (p2 fEq (pRaw 1) (pK (.int 0)))) (qDrop (pMeth p_m_meeting (pObj 0) (pCons (pArg 2) (pCons (pArg 3) pNil)))) (qIf (pTest (p2 fEq (pRaw 1) (pK (.int 1)))) (qDrop (pMeth p_m_len_pair (pObj 0) (pCons (pArg 2) (pCons (pArg 3) pNil)))) (qDrop (pMeth p_m_length_then (pObj 0) (pCons (pArg 2) (pCons (pArg 3) pNil)))))))
  (qRet (pV 4))))
def p_u_law_number : List SV → R PyData := runF 4 6 q_u_law_number
/-- _law_value(lives): slots lives 0, place 1, e 2 -/
def q_u_law_value : List SV → Fl :=
  (qSeq (qSet 1 (p1 fNeg (pK (.int 1))))
  (qSeq (qTry 1 2 1 (qDrop (pMake p_m_uinit (pCons (pArgR 0) pNil))))
  (qRet (pV 1))))
def p_u_law_value : List SV → R PyData := runF 1 3 q_u_law_value
/-- _law_no_pair(blocks, b, c): slots blocks 0, b 1, c 2, place 3, e 4 -/
def q_u_law_no_pair : List SV → Fl :=
  (qSeq (qSet 3 (p1 fNeg (pK (.int 1))))
  (qSeq (qTry 1 4 3 (qDrop (pMeth p_m_len_pair (pObj 0) (pCons (pArg 1) (pCons (pArg 2) pNil)))))
  (qRet (p2 fEq (pRaw 3) (pK (.int 0))))))
def p_u_law_no_pair : List SV → R PyData := runF 3 5 q_u_law_no_pair
/-- _law_looked(blocks, lives): slots blocks 0, lives 1, many 2, pairs 3, b 4, c 5, moment 6, due 7 -/
def q_u_law_looked : List SV → Fl :=
  (qSeq (qSet 2 (p1 fLen (pSq 1)))
  (qSeq (qIf (pOrT (pTest (p2 fNe (pFld 1 (pObj 0)) (pRaw 2))) (pOrT (pTest (p2 fNe (pFld 0 (pObj 0)) (p1 fTuple (pSq 1)))) (pTest (p2 fNe (pMeth p_m_heaviest (pObj 0) pNil) (pCall p_u_law_heaviest (pCons (pArg 1) pNil)))))) (qRet (pK (.bool false))) qNext)
  (qSeq (qSetN 3 (pLst pNil))
  (qSeq (qFor (iRg1 (pV 2)) (gName1 4) (qSeq (qFor (iRg1 (pV 2)) (gName1 5) (qSeq (qSet 6 (pCall p_u_law_meeting (pCons (pArg 1) (pCons (pArg 4) (pCons (pArg 5) pNil)))))
  (qSeq (qIf (pTest (p2 fNe (pMeth p_m_meeting (pObj 0) (pCons (pArg 4) (pCons (pArg 5) pNil))) (pRaw 6))) (qRet (pK (.bool false))) qNext)
  (qSeq (qIf (pAndT (pTest (p2 fGe (pV 6) (pK (.int 0)))) (pTest (p2 fLt (pV 4) (pV 5)))) (qApp 3 (pTup (pCons (pArg 4) (pCons (pArg 5) pNil)))) qNext)
  (qSeq (qIf (pAndT (pTest (p2 fGe (pV 6) (pK (.int 0)))) (pTest (p2 fNe (pMeth p_m_len_pair (pObj 0) (pCons (pArg 4) (pCons (pArg 5) pNil))) (pCall p_u_law_length (pCons (pD (p2 fIx (pSq 1) (pV 4))) (pCons (pArg 6) pNil)))))) (qRet (pK (.bool false))) qNext)
  (qIf (pAndT (pTest (p2 fLt (pV 6) (pK (.int 0)))) (pNotT (pTest (pCall p_u_law_no_pair (pCons (pArg 0) (pCons (pArg 4) (pCons (pArg 5) pNil))))))) (qRet (pK (.bool false))) qNext))))))
  (qFor (iRg1 (p2 fAdd (p2 fAdd (p2 fIx (pSeqOf (p2 fIx (pSq 1) (pV 4))) (pK (.int 0))) (p1 fLen (pSeqOf (p2 fIx (pSeqOf (p2 fIx (pSq 1) (pV 4))) (pK (.int 1)))))) (pK (.int 2)))) (gName1 6) (qSeq (qSet 7 (pCall p_u_law_length (pCons (pD (p2 fIx (pSq 1) (pV 4))) (pCons (pArg 6) pNil))))
  (qSeq (qIf (pAndT (pTest (p2 fGe (pV 7) (pK (.int 0)))) (pTest (p2 fNe (pMeth p_m_length_then (pObj 0) (pCons (pArg 4) (pCons (pArg 6) pNil))) (pRaw 7)))) (qRet (pK (.bool false))) qNext)
  (qIf (pAndT (pTest (p2 fLt (pV 7) (pK (.int 0)))) (pTest (p2 fNe (pCall p_u_law_number (pCons (pArg 0) (pCons (pD (pK (.int 2))) (pCons (pArg 4) (pCons (pArg 6) pNil))))) (pK (.str "moment"))))) (qRet (pK (.bool false))) qNext))))))
  (qRet (pAndV (p1 (fIsi "tuple") (pMeth p_m_pairs (pObj 0) pNil)) (p2 fEq (pMeth p_m_pairs (pObj 0) pNil) (p1 fTuple (pSq 3)))))))))
def p_u_law_looked : List SV → R PyData := runF 2 8 q_u_law_looked
/-- _law_started(blocks, lives, starts): slots blocks 0, lives 1, starts 2, due 3, turn 4, kept 5, told 6, pairs 7 -/
def q_u_law_started : List SV → Fl :=
  (qSeq (qSet 3 (pCall p_u_law_placed (pCons (pArg 1) (pCons (pArg 2) pNil))))
  (qSeq (qFor (iRg1 (pK (.int 2))) (gName1 4) (qSeq (qSet 5 (p2 fIx (pSeqOf (pList (pLst (pCons (pD (pList (p1 fList (pSq 2)))) (pCons (pD (p1 fTuple (pSq 2))) pNil))))) (pV 4)))
  (qSeq (qSet 6 (pCall p_is_placing (pCons (pArg 0) (pCons (pArg 5) pNil))))
  (qSeq (qSet 7 (pCall p_apart_pairs (pCons (pArg 0) (pCons (pArg 5) pNil))))
  (qSeq (qIf (pOrT (pNotT (pTest (p1 (fIsi "bool") (pRaw 6)))) (pOrT (pTest (p2 fNe (pRaw 6) (pRaw 3))) (pOrT (pNotT (pTest (p1 (fIsi "bool") (pRaw 7)))) (pTest (p2 fNe (pRaw 7) (pRaw 3)))))) (qRet (pK (.bool false))) qNext)
  (qIf (pTest (p2 fNe (pCall p_end_of (pCons (pArg 0) (pCons (pArg 5) pNil))) (pCall p_u_law_end (pCons (pArg 1) (pCons (pArg 2) pNil))))) (qRet (pK (.bool false))) qNext))))))
  (qRet (pK (.bool true)))))
def p_u_law_started : List SV → R PyData := runF 3 8 q_u_law_started
/-- _law_wrong_starts(blocks, starts): slots blocks 0, starts 1, many 2, rows 3, row 4, place 5, e 6 -/
def q_u_law_wrong_starts : List SV → Fl :=
  (qSeq (qSet 2 (p1 fLen (pSq 1)))
  (qSeq (qSetN 3 (pLst (pCons (pD (pTup (pCons (pD (pK (.int 7))) (pCons (pD (pK (.int 0))) pNil)))) (pCons (pD (pTup (pCons (pD (pList (pSl fSlL (pSq 1) pNoPart (pPart (p1 fNeg (pK (.int 1))))))) (pCons (pD (p2 fSub (pV 2) (pK (.int 1)))) pNil)))) (pCons (pD (pTup (pCons (pD (p2 fAdd (pV 1) (pList (pLst (pCons (pD (pK (.int 0))) pNil))))) (pCons (pArg 2) pNil)))) (pCons (pD (pTup (pCons (pD (p2 fAdd (pList (pLst (pCons (pD (p1 fNeg (pK (.int 1)))) pNil))) (pList (pSl fSlL (pSq 1) (pPart (pK (.int 1))) pNoPart)))) (pCons (pD (pK (.int 0))) pNil)))) (pCons (pD (pTup (pCons (pD (p2 fAdd (pList (pLst (pCons (pD (pK (.bool true))) pNil))) (pList (pSl fSlL (pSq 1) (pPart (pK (.int 1))) pNoPart)))) (pCons (pD (pK (.int 0))) pNil)))) pNil)))))))
  (qSeq (qApp 3 (pTup (pCons (pD (p2 fAdd (pList (pSl fSlL (pSq 1) pNoPart (pPart (p1 fNeg (pK (.int 1)))))) (pList (pLst (pCons (pD (pK .none)) pNil))))) (pCons (pD (p2 fSub (pV 2) (pK (.int 1)))) pNil))))
  (qFrz 3 (qSeq (qFor (iSq (pV 3)) (gName1 4) (qSeq (qSet 5 (p1 fNeg (pK (.int 1))))
  (qSeq (qTry 1 6 5 (qDrop (pCall p_end_of (pCons (pArg 0) (pCons (pD (p2 fIx (pSq 4) (pK (.int 0)))) pNil)))))
  (qIf (pOrT (pTest (p2 fNe (pRaw 5) (p2 fIx (pSq 4) (pK (.int 1))))) (pOrT (pTest (p2 fNotB (pCall p_is_placing (pCons (pArg 0) (pCons (pD (p2 fIx (pSq 4) (pK (.int 0)))) pNil))) (pK (.bool false)))) (pTest (p2 fNotB (pCall p_apart_pairs (pCons (pArg 0) (pCons (pD (p2 fIx (pSq 4) (pK (.int 0)))) pNil))) (pK (.bool false)))))) (qRet (pK (.bool false))) qNext))))
  (qRet (pK (.bool true))))))))
def p_u_law_wrong_starts : List SV → R PyData := runF 2 7 q_u_law_wrong_starts
/-- _law_refusals(lives): slots lives 0, last 1, many 2, rows 3, b 4, row 5, at 6 -/
def q_u_law_refusals : List SV → Fl :=
  (qSeq (qSet 1 (p2 fIx (pSeqOf (p2 fIx (pSq 0) (p1 fNeg (pK (.int 1))))) (pK (.int 0))))
  (qSeq (qSet 2 (p1 fLen (pSq 0)))
  (qSeq (qSet 3 (pList (pLst (pCons (pD (pTup (pCons (pD (pK (.int 7))) (pCons (pD (pK (.int 0))) pNil)))) (pCons (pD (pTup (pCons (pD (pList (pLst pNil))) (pCons (pD (pK (.int 0))) pNil)))) (pCons (pD (pTup (pCons (pD (p2 fAdd (pV 0) (pList (pLst (pCons (pD (pTup (pCons (pD (p2 fSub (pV 1) (pK (.int 1)))) (pCons (pD (pTup (pCons (pD (pK (.int 1))) pNil))) pNil)))) pNil))))) (pCons (pArg 2) pNil)))) (pCons (pD (pTup (pCons (pD (p2 fAdd (pV 0) (pList (pLst (pCons (pD (pTup (pCons (pArg 1) (pCons (pD (pTup (pCons (pD (pK (.int 1))) (pCons (pD (pK (.int 2))) pNil)))) pNil)))) pNil))))) (pCons (pArg 2) pNil)))) pNil)))))))
  (qSeq (qSet 3 (p2 fAdd (pV 3) (pList (pLst (pCons (pD (pTup (pCons (pD (p2 fAdd (pV 0) (pList (pLst (pCons (pD (pTup (pCons (pArg 1) (pCons (pD (pTup pNil)) pNil)))) pNil))))) (pCons (pArg 2) pNil)))) (pCons (pD (pTup (pCons (pD (p2 fAdd (pV 0) (pList (pLst (pCons (pD (pTup (pCons (pArg 1) (pCons (pD (pTup (pCons (pD (p1 fNeg (pK (.int 1)))) pNil))) pNil)))) pNil))))) (pCons (pArg 2) pNil)))) (pCons (pD (pTup (pCons (pD (p2 fAdd (pV 0) (pList (pLst (pCons (pD (pTup (pCons (pArg 1) (pCons (pD (pTup (pCons (pD (pK (.int 1))) (pCons (pD (pK (.bool true))) pNil)))) pNil)))) pNil))))) (pCons (pArg 2) pNil)))) pNil)))))))
  (qSeq (qSet 3 (p2 fAdd (pV 3) (pList (pLst (pCons (pD (pTup (pCons (pD (p2 fAdd (pV 0) (pList (pLst (pCons (pD (pTup (pCons (pD (pK (.bool true))) (pCons (pD (pTup (pCons (pD (pK (.int 1))) pNil))) pNil)))) pNil))))) (pCons (pArg 2) pNil)))) (pCons (pD (pTup (pCons (pD (p2 fAdd (pV 0) (pList (pLst (pCons (pD (pTup (pCons (pArg 1) (pCons (pD (pTup (pCons (pD (pK (.int 1))) pNil))) (pCons (pD (pK (.int 0))) pNil))))) pNil))))) (pCons (pArg 2) pNil)))) (pCons (pD (pTup (pCons (pD (p2 fAdd (pList (pLst (pCons (pD (pTup (pCons (pD (p1 fNeg (pK (.int 1)))) (pCons (pD (pTup (pCons (pD (pK (.int 1))) pNil))) pNil)))) pNil))) (pV 0))) (pCons (pD (pK (.int 0))) pNil)))) pNil)))))))
  (qSeq (qSet 3 (p2 fAdd (pV 3) (pList (pLst (pCons (pD (pTup (pCons (pD (p2 fAdd (pV 0) (pList (pLst (pCons (pD (pK (.int 5))) pNil))))) (pCons (pArg 2) pNil)))) (pCons (pD (pTup (pCons (pD (p2 fAdd (pV 0) (pList (pLst (pCons (pD (pTup (pCons (pArg 1) (pCons (pD (pK (.int 5))) pNil)))) pNil))))) (pCons (pArg 2) pNil)))) (pCons (pD (pTup (pCons (pD (p2 fAdd (p2 fAdd (pV 0) (pList (pLst (pCons (pD (pTup (pCons (pArg 1) (pCons (pD (pTup (pCons (pD (pK (.int 2))) (pCons (pD (pK (.int 1))) (pCons (pD (pK (.int 2))) pNil))))) pNil)))) pNil)))) (pList (pLst (pCons (pD (pK (.int 5))) pNil))))) (pCons (pArg 2) pNil)))) pNil)))))))
  (qSeq (qSet 3 (p2 fAdd (pV 3) (pList (pLst (pCons (pD (pTup (pCons (pD (pList (pLc (iRg1 (pK (.int 25))) (gName1 4) (pK true) (pTup (pCons (pD (pK (.int 0))) (pCons (pD (pTup (pCons (pD (pK (.int 1))) pNil))) pNil))) [4]))) (pCons (pD (pK (.int 24))) pNil)))) (pCons (pD (pTup (pCons (pD (p2 fAdd (pList (pLc (iRg1 (pK (.int 24))) (gName1 4) (pK true) (pTup (pCons (pArg 4) (pCons (pD (pTup (pCons (pArg 4) pNil))) pNil))) [4])) (pList (pLst (pCons (pD (pK (.int 5))) pNil))))) (pCons (pD (pK (.int 24))) pNil)))) pNil))))))
  (qSeq (qFor (iSq (pV 3)) (gName1 5) (qIf (pTest (p2 fNe (pCall p_u_law_value (pCons (pD (p2 fIx (pSq 5) (pK (.int 0)))) pNil)) (p2 fIx (pSq 5) (pK (.int 1))))) (qRet (pK (.bool false))) qNext))
  (qRet (p2 fEq (pFld 1 (pMake p_m_uinit (pCons (pD (pList (pLc (iRg1 (pK (.int 24))) (gName1 6) (pK true) (pList (pLst (pCons (pArg 6) (pCons (pD (pList (pLst (pCons (pD (pK (.int 2))) (pCons (pD (pK (.int 1))) pNil))))) pNil)))) [6]))) pNil))) (pK (.int 24))))))))))))
def p_u_law_refusals : List SV → R PyData := runF 1 7 q_u_law_refusals
/-- law(script): slots script 0, drawn 1, many 2, unit 3, lives 4, handed 5, life 6, blocks 7, turn 8, stacked 9, total 10, starts 11, b 12, closer 13, asked 14 -/
def q_law : List SV → Fl :=
  (qSeq (qSet 1 (pCall p_u_law_draws (pCons (pArg 0) pNil)))
  (qSeq (qSet 2 (p2 fAdd (pK (.int 1)) (pCall p_u_law_pick (pCons (pArg 1) (pCons (pD (pK (.int 0))) (pCons (pD (pK (.int 6))) pNil))))))
  (qSeq (qSet 3 (pK (.int 1)))
  (qSeq (qIf (pTest (p2 fEq (pCall p_u_law_pick (pCons (pArg 1) (pCons (pD (pK (.int 1))) (pCons (pD (pK (.int 5))) pNil)))) (pK (.int 1)))) (qSet 3 (p2 fAdd (pK (.int 1)) (pCall p_u_law_far (pCons (pArg 1) (pCons (pD (pK (.int 2))) pNil))))) qNext)
  (qSeq (qSet 4 (pCall p_u_law_lives (pCons (pArg 1) (pCons (pArg 2) (pCons (pArg 3) pNil)))))
  (qSeq (qSetF 5 (pLcF (iSq (pV 4)) (gName1 6) (pLst2F (pLf (p2 fIx (pSq 6) (pK (.int 0)))) (pListF (p1 fList (pSeqOf (p2 fIx (pSq 6) (pK (.int 1))))))) [6]))
  (qSeq (qSetO 7 (pMake p_m_uinit (pCons (pArgR 5) pNil)))
  (qSeq (qPoke 5)
  (qSeq (qApJ 5)
  (qSeq (qFor (iRg1 (pK (.int 2))) (gName1 8) (qIf (pNotT (pTest (pCall p_u_law_looked (pCons (pArg 7) (pCons (pArg 4) pNil))))) (qRet (pK (.bool false))) qNext))
  (qSeq (qSetN 9 (pLst pNil))
  (qSeq (qSet 10 (pK (.int 0)))
  (qSeq (qFor (iSq (pV 4)) (gName1 6) (qSeq (qApp 9 (pV 10))
  (qSet 10 (p2 fAdd (pV 10) (p2 fIx (pSeqOf (p2 fIx (pSq 6) (pK (.int 1)))) (pK (.int 0)))))))
  (qFrz 9 (qSeq (qIf (pOrT (pNotT (pTest (pCall p_u_law_started (pCons (pArg 7) (pCons (pArg 4) (pCons (pArg 9) pNil)))))) (pNotT (pTest (pCall p_is_placing (pCons (pArg 7) (pCons (pArg 9) pNil)))))) (qRet (pK (.bool false))) qNext)
  (qSeq (qFor (iRg1 (pK (.int 3))) (gName1 8) (qSeq (qSet 11 (pList (pLc (iRg1 (pV 2)) (gName1 12) (pK true) (p2 fMul (pV 3) (pCall p_u_law_pick (pCons (pArg 1) (pCons (pD (p2 fAdd (p2 fAdd (pK (.int 53)) (p2 fMul (pV 2) (pV 8))) (pV 12))) (pCons (pD (pK (.int 9))) pNil))))) [12])))
  (qSeq (qIf (pNotT (pTest (pCall p_u_law_started (pCons (pArg 7) (pCons (pArg 4) (pCons (pArg 11) pNil)))))) (qRet (pK (.bool false))) qNext)
  (qSeq (qSetN 13 (p1 fList (pSq 9)))
  (qSeq (qStore 13 (p2 fMax2 (pK (.int 0)) (p2 fSub (p2 fIx (pSq 13) (p2 fMod (p1 fInt1 (p2 fAdd (pV 8) (pV 2))) (pV 2))) (pK (.int 1)))) (p2 fMod (p1 fInt1 (p2 fAdd (pV 8) (pV 2))) (pV 2)))
  (qFrz 13 (qIf (pNotT (pTest (pCall p_u_law_started (pCons (pArg 7) (pCons (pArg 4) (pCons (pArg 13) pNil)))))) (qRet (pK (.bool false))) qNext)))))))
  (qSeq (qIf (pNotT (pTest (pCall p_u_law_wrong_starts (pCons (pArg 7) (pCons (pArg 9) pNil))))) (qRet (pK (.bool false))) qNext)
  (qSeq (qFor (iRg1 (pK (.int 2))) (gName1 14) (qSeq (qIf (pOrT (pTest (p2 fNe (pCall p_u_law_number (pCons (pArg 7) (pCons (pArg 14) (pCons (pArg 2) (pCons (pArg 2) pNil))))) (pK (.str "b")))) (pTest (p2 fNe (pCall p_u_law_number (pCons (pArg 7) (pCons (pArg 14) (pCons (pD (pK (.int 0))) (pCons (pD (p1 fNeg (pK (.int 1)))) pNil))))) (pK (.str "c"))))) (qRet (pK (.bool false))) qNext)
  (qIf (pOrT (pTest (p2 fNe (pCall p_u_law_number (pCons (pArg 7) (pCons (pArg 14) (pCons (pD (pK (.bool true))) (pCons (pD (pK (.int 0))) pNil))))) (pK (.str "b")))) (pTest (p2 fNe (pCall p_u_law_number (pCons (pArg 7) (pCons (pArg 14) (pCons (pD (pK (.int 0))) (pCons (pArg 2) pNil))))) (pK (.str "c"))))) (qRet (pK (.bool false))) qNext)))
  (qSeq (qIf (pOrT (pTest (p2 fNe (pCall p_u_law_number (pCons (pArg 7) (pCons (pD (pK (.int 2))) (pCons (pArg 2) (pCons (pD (pK (.int 0))) pNil))))) (pK (.str "b")))) (pTest (p2 fNe (pCall p_u_law_number (pCons (pArg 7) (pCons (pD (pK (.int 2))) (pCons (pD (pK (.int 0))) (pCons (pD (pK (.bool true))) pNil))))) (pK (.str "moment"))))) (qRet (pK (.bool false))) qNext)
  (qRet (pCall p_u_law_refusals (pCons (pArg 4) pNil))))))))))))))))))))))
def p_law : List SV → R PyData := runF 1 15 q_law
end K70

set_option Elab.async false
set_option linter.all false
set_option maxRecDepth 100000
set_option maxHeartbeats 4000000
/-! the text: where its defs stand -/
namespace K70
open PySem PySem.Spec PyProof.Rows L2 Sm
open PySem.W (Codec)
def top (i : Nat) : Stmt := PySem.Challenge.pw_shapestold_k70_first_meetings_are_enough.main.body.getD i (.Pass ⟨0, 0, 0, 0⟩)
structure Txt (c : Cf) (K : PySem.W.Frag) (mg : Str → Option Value) (fN fV : Addr) : Prop where
  hK : c.K = K
  B : Bt mg
  CL : Cls K c.C
  naL : NoAttr K c.C "lives"
  naM : NoAttr K c.C "many"
  TN : PySem.LowNX.LowNTxt K mg c.CN fN
  TV : PySem.LowVX.LowVTxt K mg c.CV fV
  c_MOST_LIVES : ∃ t, mg "MOST_LIVES" = some (.int 24 t)
end K70

set_option Elab.async false
set_option linter.all false
set_option maxRecDepth 100000
set_option maxHeartbeats 4000000
namespace K70
open PySem PySem.Spec PyProof.Rows L2 Sm
section
variable {P : Program} {w : World} {K : PySem.W.Frag} {mg : Str → Option Value} {base : Heap} {c : Cf} {fN fV : Addr}
abbrev st_is_whole : Stmt := top 5
def N_is_whole : List Str := ["thing"]
theorem sc_is_whole : FnScope N_is_whole ["thing"] (defScope st_is_whole) := ⟨rfl, rfl, rfl, by decide +kernel, rfl, by decide +kernel, by decide +kernel⟩
theorem ok_is_whole (T : Txt c K mg fN fV)  {f : Addr} {fd : FuncData} (F : Fun K "is_whole" "is_whole" st_is_whole f fd) : FnOk P w K mg base (L2.CX P w) 2 f fd ["thing"] (spF c p_is_whole) := by
  refine fn_simE q_is_whole 1 1 rfl rfl F sc_is_whole (fun cdv A outer s H E hr tk hp => ?_)
  exact ⟨_,
  (b_one (s_ret (x_and (x_isi T.B (x_raw (pv 0)) (pe_ty T.B.int bb_int)) (x_one (x_not (x_isi T.B (x_raw (pv 0)) (pe_ty T.B.bool bb_bool)))))))⟩
end
end K70

set_option Elab.async false
set_option linter.all false
set_option maxRecDepth 100000
set_option maxHeartbeats 4000000
namespace K70
open PySem PySem.Spec PyProof.Rows L2 Sm
section
variable {P : Program} {w : World} {K : PySem.W.Frag} {mg : Str → Option Value} {base : Heap} {c : Cf} {fN fV : Addr}
abbrev st_is_life : Stmt := top 8
def N_is_life : List Str := ["thing", "first", "lengths", "place", "length"]
theorem sc_is_life : FnScope N_is_life ["thing"] (defScope st_is_life) := ⟨rfl, rfl, rfl, by decide +kernel, rfl, by decide +kernel, by decide +kernel⟩
theorem ok_is_life (T : Txt c K mg fN fV) (F_is_whole : Fd c P w K mg base "is_whole" 2 p_is_whole) {f : Addr} {fd : FuncData} (F : Fun K "is_life" "is_life" st_is_life f fd) : FnOk P w K mg base (L2.CX P w) 3 f fd ["thing"] (spF c p_is_life) := by
  refine fn_simE q_is_life 1 5 rfl rfl F sc_is_life (fun cdv A outer s H E hr tk hp => ?_)
  exact ⟨_,
  (b_cons (s_if (t_pw (w_or (t_not (t_val (x_isi2 T.B (x_raw (pv 0)) (pe_ty T.B.tuple bb_tuple) (pe_ty T.B.list bb_list)))) (w_or1 (t_cmp (op_neD hr.units) os_ne mono_R (x_r (x_len T.B (x_sq (pv 0)))) (x_r x_int) (nomark _))))) (b_one (s_ret x_bl)) b_nil)
  (b_cons (s_tgt (g_names [1, 2] rfl (pgs_cons (pg_name (i := 1) sc_is_life.nd rfl (by first | exact Or.inl rfl | exact Or.inr rfl)) (pgs_cons (pg_name (i := 2) sc_is_life.nd rfl (by first | exact Or.inl rfl | exact Or.inr rfl)) pgs_nil))) (x_var (pv 0)))
  (b_cons (s_if (t_pw (w_or (t_not (t_val (x_call F_is_whole (hr.mono (by decide)) tk (a_cons (x_arg (pv 1)) a_nil)))) (w_or1 (t_cmp op_lt os_lt mono_E (x_var (pv 1)) x_int (nomark _))))) (b_one (s_ret x_bl)) b_nil)
  (b_cons (s_if (t_pw (w_or (t_not (t_val (x_isi2 T.B (x_raw (pv 2)) (pe_ty T.B.tuple bb_tuple) (pe_ty T.B.list bb_list)))) (w_or1 (t_cmp (op_eqD hr.units) os_eq mono_R (x_r (x_len T.B (x_sq (pv 2)))) (x_r x_int) (nomark _))))) (b_one (s_ret x_bl)) b_nil)
  (b_cons (s_for hp rfl (i_en T.B (x_var (pv 2))) (g_names [3, 4] rfl (pgs_cons (pg_name (i := 3) sc_is_life.nd rfl (by first | exact Or.inl rfl | exact Or.inr rfl)) (pgs_cons (pg_name (i := 4) sc_is_life.nd rfl (by first | exact Or.inl rfl | exact Or.inr rfl)) pgs_nil))) (b_cons (s_if (t_pw (w_or (t_not (t_val (x_call F_is_whole (hr.mono (by decide)) tk (a_cons (x_arg (pv 4)) a_nil)))) (w_or1 (t_cmp op_lt os_lt mono_E (x_var (pv 4)) x_int (nomark _))))) (b_one (s_ret x_bl)) b_nil)
  (b_one (s_if (t_pw (w_and (t_cmp op_gt os_gt mono_E (x_var (pv 3)) x_int (nomark _)) (w_and1 (t_cmp op_gt os_gt mono_E (x_var (pv 4)) (x_ix (x_sq (pv 2)) (x_bin op_sub os_sub mono_E (x_var (pv 3)) x_int)) (nomark _))))) (b_one (s_ret x_bl)) b_nil))))
  (b_one (s_ret x_bl)))))))⟩
end
end K70

set_option Elab.async false
set_option linter.all false
set_option maxRecDepth 100000
set_option maxHeartbeats 4000000
namespace K70
open PySem PySem.Spec PyProof.Rows L2 Sm
section
variable {P : Program} {w : World} {K : PySem.W.Frag} {mg : Str → Option Value} {base : Heap} {c : Cf} {fN fV : Addr}
abbrev st_m_uinit : Stmt := inClass (top 14) 0
def N_m_uinit : List Str := ["self", "lives", "kept", "earlier", "place", "life"]
theorem sc_m_uinit : FnScope N_m_uinit ["self", "lives"] (defScope st_m_uinit) := ⟨rfl, rfl, rfl, by decide +kernel, rfl, by decide +kernel, by decide +kernel⟩
theorem ok_m_uinit (T : Txt c K mg fN fV) (F_is_life : Fd c P w K mg base "is_life" 3 p_is_life) {f : Addr} {fd : FuncData} (F : Fun K "__init__" "Blocks.__init__" st_m_uinit f fd) (hind : ∀ a as, runI 2 6 q_m_uinit a as = p_m_uinit as) : FnOk P w K mg base (L2.CX P w) 4 f fd ["self", "lives"] (spI c p_m_uinit) := by
  refine fn_simIE q_m_uinit p_m_uinit 2 6 rfl rfl F sc_m_uinit hind (fun cdv A outer s H E hr tk hp => ?_)
  exact ⟨_,
  (b_cons (s_if (t_pw (w_or (t_not (t_val (x_isi2 T.B (x_raw (pv 1)) (pe_ty T.B.tuple bb_tuple) (pe_ty T.B.list bb_list)))) (w_or1 (t_cmp (op_eqD hr.units) os_eq mono_R (x_r (x_len T.B (x_sq (pv 1)))) (x_r x_int) (nomark _))))) (b_one (s_raiseV rfl T.TV (hr.mono (by decide) : Room 1 _) tk x_int)) b_nil)
  (b_cons (s_setN 2 sc_m_uinit.nd rfl (by first | exact Or.inl rfl | exact Or.inr rfl) (n_lst a_nil))
  (b_cons (s_set 3 sc_m_uinit.nd rfl (by first | exact Or.inl rfl | exact Or.inr rfl) x_int)
  (b_cons (s_for hp rfl (i_en T.B (x_var (pv 1))) (g_names [4, 5] rfl (pgs_cons (pg_name (i := 4) sc_m_uinit.nd rfl (by first | exact Or.inl rfl | exact Or.inr rfl)) (pgs_cons (pg_name (i := 5) sc_m_uinit.nd rfl (by first | exact Or.inl rfl | exact Or.inr rfl)) pgs_nil))) (b_cons (s_if (t_pw (w_or (t_not (t_val (x_call F_is_life (hr.mono (by decide)) tk (a_cons (x_arg (pv 5)) a_nil)))) (w_or1 (t_cmp op_lt os_lt mono_E (x_ix (x_sq (pv 5)) x_int) (x_var (pv 3)) (nomark _))))) (b_one (s_raiseV rfl T.TV (hr.mono (by decide) : Room 1 _) tk (x_var (pv 4)))) b_nil)
  (b_cons (s_set 3 sc_m_uinit.nd rfl (by first | exact Or.inl rfl | exact Or.inr rfl) (x_ix (x_sq (pv 5)) x_int))
  (b_cons (s_if (t_cmp (op_eqD hr.units) os_eq mono_R (x_raw (pv 4)) (x_r (x_cglob T.c_MOST_LIVES)) (nomark _)) (b_one (s_raiseV rfl T.TV (hr.mono (by decide) : Room 1 _) tk (x_var (pv 4)))) b_nil)
  (b_one (s_app 2 (pv 2) (x_tup (a_cons (x_g (x_ix (x_sq (pv 5)) x_int)) (a_cons (x_g (x_tuple T.B (x_v (x_ix (x_sq (pv 5)) x_int)))) a_nil)))))))))
  (b_cons (s_ofld 0 T.CL T.naL rfl (by decide) (pv 0) (x_tuple T.B (x_sq (pv 2))))
  (b_one (s_ofld 1 T.CL T.naM rfl (by decide) (pv 0) (x_len T.B (x_sq (pv 2))))))))))⟩
end
end K70

set_option Elab.async false
set_option linter.all false
set_option maxRecDepth 100000
set_option maxHeartbeats 4000000
namespace K70
open PySem PySem.Spec PyProof.Rows L2 Sm
section
variable {P : Program} {w : World} {K : PySem.W.Frag} {mg : Str → Option Value} {base : Heap} {c : Cf} {fN fV : Addr}
abbrev st_m_check_block : Stmt := inClass (top 14) 1
def N_m_check_block : List Str := ["self", "name", "number"]
theorem sc_m_check_block : FnScope N_m_check_block ["self", "name", "number"] (defScope st_m_check_block) := ⟨rfl, rfl, rfl, by decide +kernel, rfl, by decide +kernel, by decide +kernel⟩
theorem ok_m_check_block (T : Txt c K mg fN fV) (F_is_whole : Fd c P w K mg base "is_whole" 2 p_is_whole) {f : Addr} {fd : FuncData} (F : Fun K "check_block" "Blocks.check_block" st_m_check_block f fd) : FnOk P w K mg base (L2.CX P w) 3 f fd ["self", "name", "number"] (spF c p_m_check_block) := by
  refine fn_simE q_m_check_block 3 3 rfl rfl F sc_m_check_block (fun cdv A outer s H E hr tk hp => ?_)
  exact ⟨_,
  (b_one (s_if (t_pw (w_or (t_not (t_val (x_call F_is_whole (hr.mono (by decide)) tk (a_cons (x_arg (pv 2)) a_nil)))) (w_or1 (t_not (t_chain op_le op_lt os_le os_lt x_int (x_var (pv 2)) (x_fld T.CL T.naM fld_many (x_obj (pv 0)))))))) (b_one (s_raiseN rfl T.TN (hr.mono (by decide) : Room 1 _) tk (x_var (pv 1)))) b_nil))⟩
end
end K70

set_option Elab.async false
set_option linter.all false
set_option maxRecDepth 100000
set_option maxHeartbeats 4000000
namespace K70
open PySem PySem.Spec PyProof.Rows L2 Sm
section
variable {P : Program} {w : World} {K : PySem.W.Frag} {mg : Str → Option Value} {base : Heap} {c : Cf} {fN fV : Addr}
abbrev st_ending : Stmt := top 9
def N_ending : List Str := ["life"]
theorem sc_ending : FnScope N_ending ["life"] (defScope st_ending) := ⟨rfl, rfl, rfl, by decide +kernel, rfl, by decide +kernel, by decide +kernel⟩
theorem ok_ending (T : Txt c K mg fN fV)  {f : Addr} {fd : FuncData} (F : Fun K "ending" "ending" st_ending f fd) : FnOk P w K mg base (L2.CX P w) 2 f fd ["life"] (spF c p_ending) := by
  refine fn_simE q_ending 1 1 rfl rfl F sc_ending (fun cdv A outer s H E hr tk hp => ?_)
  exact ⟨_,
  (b_one (s_ret (x_bin op_addU os_add mono_E (x_ix (x_sq (pv 0)) x_int) (x_len T.B (x_v (x_ix (x_sq (pv 0)) x_int))))))⟩
end
end K70

set_option Elab.async false
set_option linter.all false
set_option maxRecDepth 100000
set_option maxHeartbeats 4000000
namespace K70
open PySem PySem.Spec PyProof.Rows L2 Sm
section
variable {P : Program} {w : World} {K : PySem.W.Frag} {mg : Str → Option Value} {base : Heap} {c : Cf} {fN fV : Addr}
abbrev st_first_meeting : Stmt := top 10
def N_first_meeting : List Str := ["lives", "b", "c", "moment"]
theorem sc_first_meeting : FnScope N_first_meeting ["lives", "b", "c"] (defScope st_first_meeting) := ⟨rfl, rfl, rfl, by decide +kernel, rfl, by decide +kernel, by decide +kernel⟩
theorem ok_first_meeting (T : Txt c K mg fN fV) (F_ending : Fd c P w K mg base "ending" 2 p_ending) {f : Addr} {fd : FuncData} (F : Fun K "first_meeting" "first_meeting" st_first_meeting f fd) : FnOk P w K mg base (L2.CX P w) 3 f fd ["lives", "b", "c"] (spF c p_first_meeting) := by
  refine fn_simE q_first_meeting 3 4 rfl rfl F sc_first_meeting (fun cdv A outer s H E hr tk hp => ?_)
  exact ⟨_,
  (b_cons (s_set 3 sc_first_meeting.nd rfl (by first | exact Or.inl rfl | exact Or.inr rfl) (x_max2 T.B rfl (x_ix (x_v (x_ix (x_sq (pv 0)) (x_var (pv 1)))) x_int) (x_ix (x_v (x_ix (x_sq (pv 0)) (x_var (pv 2)))) x_int)))
  (b_cons (s_if (t_pw (w_or (t_cmp (op_eqD hr.units) os_eq mono_R (x_raw (pv 1)) (x_raw (pv 2)) (nomark _)) (w_or1 (t_cmp op_ge os_ge mono_E (x_var (pv 3)) (x_min2 T.B rfl (x_call F_ending (hr.mono (by decide)) tk (a_cons (x_g (x_ix (x_sq (pv 0)) (x_var (pv 1)))) a_nil)) (x_call F_ending (hr.mono (by decide)) tk (a_cons (x_g (x_ix (x_sq (pv 0)) (x_var (pv 2)))) a_nil))) (nomark _))))) (b_one (s_ret (x_neg x_int))) b_nil)
  (b_one (s_ret (x_var (pv 3))))))⟩
end
end K70

set_option Elab.async false
set_option linter.all false
set_option maxRecDepth 100000
set_option maxHeartbeats 4000000
namespace K70
open PySem PySem.Spec PyProof.Rows L2 Sm
section
variable {P : Program} {w : World} {K : PySem.W.Frag} {mg : Str → Option Value} {base : Heap} {c : Cf} {fN fV : Addr}
abbrev st_m_meeting : Stmt := inClass (top 14) 2
def N_m_meeting : List Str := ["self", "b", "c"]
theorem sc_m_meeting : FnScope N_m_meeting ["self", "b", "c"] (defScope st_m_meeting) := ⟨rfl, rfl, rfl, by decide +kernel, rfl, by decide +kernel, by decide +kernel⟩
theorem ok_m_meeting (T : Txt c K mg fN fV) (F_m_check_block : Md c P w K mg base "check_block" 3 p_m_check_block) (F_first_meeting : Fd c P w K mg base "first_meeting" 3 p_first_meeting) {f : Addr} {fd : FuncData} (F : Fun K "meeting" "Blocks.meeting" st_m_meeting f fd) : FnOk P w K mg base (L2.CX P w) 4 f fd ["self", "b", "c"] (spF c p_m_meeting) := by
  refine fn_simE q_m_meeting 3 3 rfl rfl F sc_m_meeting (fun cdv A outer s H E hr tk hp => ?_)
  exact ⟨_,
  (b_cons (s_drop (x_meth F_m_check_block T.CL (hr.mono (by decide)) tk (by decide) (x_obj (pv 0)) (a_cons (x_g x_str) (a_cons (x_arg (pv 1)) a_nil))))
  (b_cons (s_drop (x_meth F_m_check_block T.CL (hr.mono (by decide)) tk (by decide) (x_obj (pv 0)) (a_cons (x_g x_str) (a_cons (x_arg (pv 2)) a_nil))))
  (b_one (s_ret (x_call F_first_meeting (hr.mono (by decide)) tk (a_cons (x_g (x_fld T.CL T.naL fld_lives (x_obj (pv 0)))) (a_cons (x_arg (pv 1)) (a_cons (x_arg (pv 2)) a_nil))))))))⟩
end
end K70

set_option Elab.async false
set_option linter.all false
set_option maxRecDepth 100000
set_option maxHeartbeats 4000000
namespace K70
open PySem PySem.Spec PyProof.Rows L2 Sm
section
variable {P : Program} {w : World} {K : PySem.W.Frag} {mg : Str → Option Value} {base : Heap} {c : Cf} {fN fV : Addr}
abbrev st_m_length_then : Stmt := inClass (top 14) 3
def N_m_length_then : List Str := ["self", "b", "moment", "first", "lengths"]
theorem sc_m_length_then : FnScope N_m_length_then ["self", "b", "moment"] (defScope st_m_length_then) := ⟨rfl, rfl, rfl, by decide +kernel, rfl, by decide +kernel, by decide +kernel⟩
theorem ok_m_length_then (T : Txt c K mg fN fV) (F_m_check_block : Md c P w K mg base "check_block" 3 p_m_check_block) (F_is_whole : Fd c P w K mg base "is_whole" 2 p_is_whole) {f : Addr} {fd : FuncData} (F : Fun K "length_then" "Blocks.length_then" st_m_length_then f fd) : FnOk P w K mg base (L2.CX P w) 4 f fd ["self", "b", "moment"] (spF c p_m_length_then) := by
  refine fn_simE q_m_length_then 3 5 rfl rfl F sc_m_length_then (fun cdv A outer s H E hr tk hp => ?_)
  exact ⟨_,
  (b_cons (s_drop (x_meth F_m_check_block T.CL (hr.mono (by decide)) tk (by decide) (x_obj (pv 0)) (a_cons (x_g x_str) (a_cons (x_arg (pv 1)) a_nil))))
  (b_cons (s_tgt (g_names [3, 4] rfl (pgs_cons (pg_name (i := 3) sc_m_length_then.nd rfl (by first | exact Or.inl rfl | exact Or.inr rfl)) (pgs_cons (pg_name (i := 4) sc_m_length_then.nd rfl (by first | exact Or.inl rfl | exact Or.inr rfl)) pgs_nil))) (x_ix (x_v (x_fld T.CL T.naL fld_lives (x_obj (pv 0)))) (x_var (pv 1))))
  (b_cons (s_if (t_pw (w_or (t_not (t_val (x_call F_is_whole (hr.mono (by decide)) tk (a_cons (x_arg (pv 2)) a_nil)))) (w_or1 (t_not (t_chain op_le op_lt os_le os_lt (x_var (pv 3)) (x_var (pv 2)) (x_bin op_addU os_add mono_E (x_var (pv 3)) (x_len T.B (x_sq (pv 4))))))))) (b_one (s_raiseN rfl T.TN (hr.mono (by decide) : Room 1 _) tk x_str)) b_nil)
  (b_one (s_ret (x_ix (x_sq (pv 4)) (x_bin op_sub os_sub mono_E (x_var (pv 2)) (x_var (pv 3)))))))))⟩
end
end K70

set_option Elab.async false
set_option linter.all false
set_option maxRecDepth 100000
set_option maxHeartbeats 4000000
namespace K70
open PySem PySem.Spec PyProof.Rows L2 Sm
section
variable {P : Program} {w : World} {K : PySem.W.Frag} {mg : Str → Option Value} {base : Heap} {c : Cf} {fN fV : Addr}
abbrev st_meeting_length : Stmt := top 11
def N_meeting_length : List Str := ["lives", "b", "c", "first", "lengths"]
theorem sc_meeting_length : FnScope N_meeting_length ["lives", "b", "c"] (defScope st_meeting_length) := ⟨rfl, rfl, rfl, by decide +kernel, rfl, by decide +kernel, by decide +kernel⟩
theorem ok_meeting_length (T : Txt c K mg fN fV) (F_first_meeting : Fd c P w K mg base "first_meeting" 3 p_first_meeting) {f : Addr} {fd : FuncData} (F : Fun K "meeting_length" "meeting_length" st_meeting_length f fd) : FnOk P w K mg base (L2.CX P w) 4 f fd ["lives", "b", "c"] (spF c p_meeting_length) := by
  refine fn_simE q_meeting_length 3 5 rfl rfl F sc_meeting_length (fun cdv A outer s H E hr tk hp => ?_)
  exact ⟨_,
  (b_cons (s_tgt (g_names [3, 4] rfl (pgs_cons (pg_name (i := 3) sc_meeting_length.nd rfl (by first | exact Or.inl rfl | exact Or.inr rfl)) (pgs_cons (pg_name (i := 4) sc_meeting_length.nd rfl (by first | exact Or.inl rfl | exact Or.inr rfl)) pgs_nil))) (x_ix (x_sq (pv 0)) (x_var (pv 1))))
  (b_one (s_ret (x_ix (x_sq (pv 4)) (x_bin op_sub os_sub mono_E (x_call F_first_meeting (hr.mono (by decide)) tk (a_cons (x_arg (pv 0)) (a_cons (x_arg (pv 1)) (a_cons (x_arg (pv 2)) a_nil)))) (x_var (pv 3)))))))⟩
end
end K70

set_option Elab.async false
set_option linter.all false
set_option maxRecDepth 100000
set_option maxHeartbeats 4000000
namespace K70
open PySem PySem.Spec PyProof.Rows L2 Sm
section
variable {P : Program} {w : World} {K : PySem.W.Frag} {mg : Str → Option Value} {base : Heap} {c : Cf} {fN fV : Addr}
abbrev st_m_len_pair : Stmt := inClass (top 14) 4
def N_m_len_pair : List Str := ["self", "b", "c"]
theorem sc_m_len_pair : FnScope N_m_len_pair ["self", "b", "c"] (defScope st_m_len_pair) := ⟨rfl, rfl, rfl, by decide +kernel, rfl, by decide +kernel, by decide +kernel⟩
theorem ok_m_len_pair (T : Txt c K mg fN fV) (F_m_meeting : Md c P w K mg base "meeting" 4 p_m_meeting) (F_meeting_length : Fd c P w K mg base "meeting_length" 4 p_meeting_length) {f : Addr} {fd : FuncData} (F : Fun K "len_pair" "Blocks.len_pair" st_m_len_pair f fd) : FnOk P w K mg base (L2.CX P w) 5 f fd ["self", "b", "c"] (spF c p_m_len_pair) := by
  refine fn_simE q_m_len_pair 3 3 rfl rfl F sc_m_len_pair (fun cdv A outer s H E hr tk hp => ?_)
  exact ⟨_,
  (b_cons (s_if (t_cmp (op_eqD hr.units) os_eq mono_R (x_r (x_meth F_m_meeting T.CL (hr.mono (by decide)) tk (by decide) (x_obj (pv 0)) (a_cons (x_arg (pv 1)) (a_cons (x_arg (pv 2)) a_nil)))) (x_r (x_neg x_int)) (nomark _)) (b_one (s_raiseV rfl T.TV (hr.mono (by decide) : Room 1 _) tk x_int)) b_nil)
  (b_one (s_ret (x_call F_meeting_length (hr.mono (by decide)) tk (a_cons (x_g (x_fld T.CL T.naL fld_lives (x_obj (pv 0)))) (a_cons (x_arg (pv 1)) (a_cons (x_arg (pv 2)) a_nil)))))))⟩
end
end K70

set_option Elab.async false
set_option linter.all false
set_option maxRecDepth 100000
set_option maxHeartbeats 4000000
namespace K70
open PySem PySem.Spec PyProof.Rows L2 Sm
section
variable {P : Program} {w : World} {K : PySem.W.Frag} {mg : Str → Option Value} {base : Heap} {c : Cf} {fN fV : Addr}
abbrev st_meeting_pairs : Stmt := top 12
def N_meeting_pairs : List Str := ["lives", "found", "b", "c"]
theorem sc_meeting_pairs : FnScope N_meeting_pairs ["lives"] (defScope st_meeting_pairs) := ⟨rfl, rfl, rfl, by decide +kernel, rfl, by decide +kernel, by decide +kernel⟩
theorem ok_meeting_pairs (T : Txt c K mg fN fV) (F_first_meeting : Fd c P w K mg base "first_meeting" 3 p_first_meeting) {f : Addr} {fd : FuncData} (F : Fun K "meeting_pairs" "meeting_pairs" st_meeting_pairs f fd) : FnOk P w K mg base (L2.CX P w) 4 f fd ["lives"] (spF c p_meeting_pairs) := by
  refine fn_simE q_meeting_pairs 1 4 rfl rfl F sc_meeting_pairs (fun cdv A outer s H E hr tk hp => ?_)
  exact ⟨_,
  (b_cons (s_setN 1 sc_meeting_pairs.nd rfl (by first | exact Or.inl rfl | exact Or.inr rfl) (n_lst a_nil))
  (b_cons (s_for hp rfl (i_rg1 T.B (x_len T.B (x_sq (pv 0)))) (g_name (pg_name (i := 2) sc_meeting_pairs.nd rfl (by first | exact Or.inl rfl | exact Or.inr rfl))) (b_one (s_for hp rfl (i_rg2 T.B (x_bin op_addU os_add mono_E (x_var (pv 2)) x_int) (x_len T.B (x_sq (pv 0)))) (g_name (pg_name (i := 3) sc_meeting_pairs.nd rfl (by first | exact Or.inl rfl | exact Or.inr rfl))) (b_one (s_if (t_cmp op_ge os_ge mono_E (x_call F_first_meeting (hr.mono (by decide)) tk (a_cons (x_arg (pv 0)) (a_cons (x_arg (pv 2)) (a_cons (x_arg (pv 3)) a_nil)))) x_int (nomark _)) (b_one (s_app 1 (pv 1) (x_tup (a_cons (x_arg (pv 2)) (a_cons (x_arg (pv 3)) a_nil))))) b_nil)))))
  (b_one (s_ret (x_tuple T.B (x_sq (pv 1)))))))⟩
end
end K70

set_option Elab.async false
set_option linter.all false
set_option maxRecDepth 100000
set_option maxHeartbeats 4000000
namespace K70
open PySem PySem.Spec PyProof.Rows L2 Sm
section
variable {P : Program} {w : World} {K : PySem.W.Frag} {mg : Str → Option Value} {base : Heap} {c : Cf} {fN fV : Addr}
abbrev st_m_pairs : Stmt := inClass (top 14) 5
def N_m_pairs : List Str := ["self"]
theorem sc_m_pairs : FnScope N_m_pairs ["self"] (defScope st_m_pairs) := ⟨rfl, rfl, rfl, by decide +kernel, rfl, by decide +kernel, by decide +kernel⟩
theorem ok_m_pairs (T : Txt c K mg fN fV) (F_meeting_pairs : Fd c P w K mg base "meeting_pairs" 4 p_meeting_pairs) {f : Addr} {fd : FuncData} (F : Fun K "pairs" "Blocks.pairs" st_m_pairs f fd) : FnOk P w K mg base (L2.CX P w) 5 f fd ["self"] (spF c p_m_pairs) := by
  refine fn_simE q_m_pairs 1 1 rfl rfl F sc_m_pairs (fun cdv A outer s H E hr tk hp => ?_)
  exact ⟨_,
  (b_one (s_ret (x_call F_meeting_pairs (hr.mono (by decide)) tk (a_cons (x_g (x_fld T.CL T.naL fld_lives (x_obj (pv 0)))) a_nil))))⟩
end
end K70

set_option Elab.async false
set_option linter.all false
set_option maxRecDepth 100000
set_option maxHeartbeats 4000000
namespace K70
open PySem PySem.Spec PyProof.Rows L2 Sm
section
variable {P : Program} {w : World} {K : PySem.W.Frag} {mg : Str → Option Value} {base : Heap} {c : Cf} {fN fV : Addr}
abbrev st_lengths_then : Stmt := top 13
def N_lengths_then : List Str := ["lives", "moment", "found", "first", "lengths"]
theorem sc_lengths_then : FnScope N_lengths_then ["lives", "moment"] (defScope st_lengths_then) := ⟨rfl, rfl, rfl, by decide +kernel, rfl, by decide +kernel, by decide +kernel⟩
theorem ok_lengths_then (T : Txt c K mg fN fV)  {f : Addr} {fd : FuncData} (F : Fun K "lengths_then" "lengths_then" st_lengths_then f fd) : FnOk P w K mg base (L2.CX P w) 2 f fd ["lives", "moment"] (spF c p_lengths_then) := by
  refine fn_simE q_lengths_then 2 5 rfl rfl F sc_lengths_then (fun cdv A outer s H E hr tk hp => ?_)
  exact ⟨_,
  (b_cons (s_setN 2 sc_lengths_then.nd rfl (by first | exact Or.inl rfl | exact Or.inr rfl) (n_lst a_nil))
  (b_cons (s_for hp rfl (i_seq (x_var (pv 0))) (g_names [3, 4] rfl (pgs_cons (pg_name (i := 3) sc_lengths_then.nd rfl (by first | exact Or.inl rfl | exact Or.inr rfl)) (pgs_cons (pg_name (i := 4) sc_lengths_then.nd rfl (by first | exact Or.inl rfl | exact Or.inr rfl)) pgs_nil))) (b_one (s_if (t_chain op_le op_lt os_le os_lt (x_var (pv 3)) (x_var (pv 1)) (x_bin op_addU os_add mono_E (x_var (pv 3)) (x_len T.B (x_sq (pv 4))))) (b_one (s_app 2 (pv 2) (x_ix (x_sq (pv 4)) (x_bin op_sub os_sub mono_E (x_var (pv 1)) (x_var (pv 3)))))) b_nil)))
  (b_frz 2 (b_one (s_ret (x_var (pv 2)))))))⟩
end
end K70

set_option Elab.async false
set_option linter.all false
set_option maxRecDepth 100000
set_option maxHeartbeats 4000000
namespace K70
open PySem PySem.Spec PyProof.Rows L2 Sm
section
variable {P : Program} {w : World} {K : PySem.W.Frag} {mg : Str → Option Value} {base : Heap} {c : Cf} {fN fV : Addr}
abbrev st_m_heaviest : Stmt := inClass (top 14) 6
def N_m_heaviest : List Str := ["self", "best", "first", "lengths", "total"]
theorem sc_m_heaviest : FnScope N_m_heaviest ["self"] (defScope st_m_heaviest) := ⟨rfl, rfl, rfl, by decide +kernel, rfl, by decide +kernel, by decide +kernel⟩
theorem ok_m_heaviest (T : Txt c K mg fN fV) (F_lengths_then : Fd c P w K mg base "lengths_then" 2 p_lengths_then) {f : Addr} {fd : FuncData} (F : Fun K "heaviest" "Blocks.heaviest" st_m_heaviest f fd) : FnOk P w K mg base (L2.CX P w) 3 f fd ["self"] (spF c p_m_heaviest) := by
  refine fn_simE q_m_heaviest 1 5 rfl rfl F sc_m_heaviest (fun cdv A outer s H E hr tk hp => ?_)
  exact ⟨_,
  (b_cons (s_set 1 sc_m_heaviest.nd rfl (by first | exact Or.inl rfl | exact Or.inr rfl) (x_tup (a_cons (x_g x_int) (a_cons (x_g (x_neg x_int)) a_nil))))
  (b_cons (s_for hp rfl (i_seq (x_fld T.CL T.naL fld_lives (x_obj (pv 0)))) (g_names [2, 3] rfl (pgs_cons (pg_name (i := 2) sc_m_heaviest.nd rfl (by first | exact Or.inl rfl | exact Or.inr rfl)) (pgs_cons (pg_name (i := 3) sc_m_heaviest.nd rfl (by first | exact Or.inl rfl | exact Or.inr rfl)) pgs_nil))) (b_cons (s_set 4 sc_m_heaviest.nd rfl (by first | exact Or.inl rfl | exact Or.inr rfl) (x_sum T.B rfl (x_v (x_call F_lengths_then (hr.mono (by decide)) tk (a_cons (x_g (x_fld T.CL T.naL fld_lives (x_obj (pv 0)))) (a_cons (x_arg (pv 2)) a_nil))))))
  (b_one (s_if (t_cmp op_gt os_gt mono_E (x_var (pv 4)) (x_ix (x_sq (pv 1)) x_int) (nomark _)) (b_one (s_set 1 sc_m_heaviest.nd rfl (by first | exact Or.inl rfl | exact Or.inr rfl) (x_tup (a_cons (x_arg (pv 2)) (a_cons (x_arg (pv 4)) a_nil))))) b_nil))))
  (b_one (s_ret (x_var (pv 1))))))⟩
end
end K70

set_option Elab.async false
set_option linter.all false
set_option maxRecDepth 100000
set_option maxHeartbeats 4000000
namespace K70
open PySem PySem.Spec PyProof.Rows L2 Sm
section
variable {P : Program} {w : World} {K : PySem.W.Frag} {mg : Str → Option Value} {base : Heap} {c : Cf} {fN fV : Addr}
abbrev st_wrong_start : Stmt := top 16
def N_wrong_start : List Str := ["blocks", "starts", "place", "start"]
theorem sc_wrong_start : FnScope N_wrong_start ["blocks", "starts"] (defScope st_wrong_start) := ⟨rfl, rfl, rfl, by decide +kernel, rfl, by decide +kernel, by decide +kernel⟩
theorem ok_wrong_start (T : Txt c K mg fN fV) (F_is_whole : Fd c P w K mg base "is_whole" 2 p_is_whole) {f : Addr} {fd : FuncData} (F : Fun K "wrong_start" "wrong_start" st_wrong_start f fd) : FnOk P w K mg base (L2.CX P w) 3 f fd ["blocks", "starts"] (spF c p_wrong_start) := by
  refine fn_simE q_wrong_start 2 4 rfl rfl F sc_wrong_start (fun cdv A outer s H E hr tk hp => ?_)
  exact ⟨_,
  (b_cons (s_if (t_not (t_val (x_isi2 T.B (x_raw (pv 1)) (pe_ty T.B.tuple bb_tuple) (pe_ty T.B.list bb_list)))) (b_one (s_ret x_int)) b_nil)
  (b_cons (s_for hp rfl (i_en T.B (x_var (pv 1))) (g_names [2, 3] rfl (pgs_cons (pg_name (i := 2) sc_wrong_start.nd rfl (by first | exact Or.inl rfl | exact Or.inr rfl)) (pgs_cons (pg_name (i := 3) sc_wrong_start.nd rfl (by first | exact Or.inl rfl | exact Or.inr rfl)) pgs_nil))) (b_one (s_if (t_pw (w_or (t_cmp op_ge os_ge mono_E (x_var (pv 2)) (x_fld T.CL T.naM fld_many (x_obj (pv 0))) (nomark _)) (w_or (t_not (t_val (x_call F_is_whole (hr.mono (by decide)) tk (a_cons (x_arg (pv 3)) a_nil)))) (w_or1 (t_cmp op_lt os_lt mono_E (x_var (pv 3)) x_int (nomark _)))))) (b_one (s_ret (x_var (pv 2)))) b_nil)))
  (b_one (s_ret (x_if (t_cmp (op_eqD hr.units) os_eq mono_R (x_r (x_len T.B (x_sq (pv 1)))) (x_r (x_fld T.CL T.naM fld_many (x_obj (pv 0)))) (nomark _)) (x_neg x_int) (x_len T.B (x_sq (pv 1))))))))⟩
end
end K70

set_option Elab.async false
set_option linter.all false
set_option maxRecDepth 100000
set_option maxHeartbeats 4000000
namespace K70
open PySem PySem.Spec PyProof.Rows L2 Sm
section
variable {P : Program} {w : World} {K : PySem.W.Frag} {mg : Str → Option Value} {base : Heap} {c : Cf} {fN fV : Addr}
abbrev st_apart : Stmt := top 17
def N_apart : List Str := ["start", "length", "other", "taken"]
theorem sc_apart : FnScope N_apart ["start", "length", "other", "taken"] (defScope st_apart) := ⟨rfl, rfl, rfl, by decide +kernel, rfl, by decide +kernel, by decide +kernel⟩
theorem ok_apart (T : Txt c K mg fN fV)  {f : Addr} {fd : FuncData} (F : Fun K "apart" "apart" st_apart f fd) : FnOk P w K mg base (L2.CX P w) 2 f fd ["start", "length", "other", "taken"] (spF c p_apart) := by
  refine fn_simE q_apart 4 4 rfl rfl F sc_apart (fun cdv A outer s H E hr tk hp => ?_)
  exact ⟨_,
  (b_one (s_ret (x_or (x_cmp op_le os_le mono_E (x_bin op_addU os_add mono_E (x_var (pv 0)) (x_var (pv 1))) (x_var (pv 2)) (nomark _)) (x_one (x_cmp op_le os_le mono_E (x_bin op_addU os_add mono_E (x_var (pv 2)) (x_var (pv 3))) (x_var (pv 0)) (nomark _))))))⟩
end
end K70

set_option Elab.async false
set_option linter.all false
set_option maxRecDepth 100000
set_option maxHeartbeats 4000000
namespace K70
open PySem PySem.Spec PyProof.Rows L2 Sm
section
variable {P : Program} {w : World} {K : PySem.W.Frag} {mg : Str → Option Value} {base : Heap} {c : Cf} {fN fV : Addr}
abbrev st_is_placing : Stmt := top 18
def N_is_placing : List Str := ["blocks", "starts", "b", "c", "last", "moment"]
theorem sc_is_placing : FnScope N_is_placing ["blocks", "starts"] (defScope st_is_placing) := ⟨rfl, rfl, rfl, by decide +kernel, rfl, by decide +kernel, by decide +kernel⟩
theorem ok_is_placing (T : Txt c K mg fN fV) (F_apart : Fd c P w K mg base "apart" 2 p_apart) (F_ending : Fd c P w K mg base "ending" 2 p_ending) (F_m_length_then : Md c P w K mg base "length_then" 4 p_m_length_then) (F_m_meeting : Md c P w K mg base "meeting" 4 p_m_meeting) (F_m_pairs : Md c P w K mg base "pairs" 5 p_m_pairs) (F_wrong_start : Fd c P w K mg base "wrong_start" 3 p_wrong_start) {f : Addr} {fd : FuncData} (F : Fun K "is_placing" "is_placing" st_is_placing f fd) : FnOk P w K mg base (L2.CX P w) 6 f fd ["blocks", "starts"] (spF c p_is_placing) := by
  refine fn_simE q_is_placing 2 6 rfl rfl F sc_is_placing (fun cdv A outer s H E hr tk hp => ?_)
  exact ⟨_,
  (b_cons (s_if (t_cmp (op_neD hr.units) os_ne mono_R (x_r (x_call F_wrong_start (hr.mono (by decide)) tk (a_cons (x_arg (pv 0)) (a_cons (x_arg (pv 1)) a_nil)))) (x_r (x_neg x_int)) (nomark _)) (b_one (s_ret x_bl)) b_nil)
  (b_cons (s_for hp rfl (i_seq (x_meth0 F_m_pairs T.CL (hr.mono (by decide)) tk (by decide) (x_obj (pv 0)))) (g_names [2, 3] rfl (pgs_cons (pg_name (i := 2) sc_is_placing.nd rfl (by first | exact Or.inl rfl | exact Or.inr rfl)) (pgs_cons (pg_name (i := 3) sc_is_placing.nd rfl (by first | exact Or.inl rfl | exact Or.inr rfl)) pgs_nil))) (b_cons (s_set 4 sc_is_placing.nd rfl (by first | exact Or.inl rfl | exact Or.inr rfl) (x_min2 T.B rfl (x_call F_ending (hr.mono (by decide)) tk (a_cons (x_g (x_ix (x_v (x_fld T.CL T.naL fld_lives (x_obj (pv 0)))) (x_var (pv 2)))) a_nil)) (x_call F_ending (hr.mono (by decide)) tk (a_cons (x_g (x_ix (x_v (x_fld T.CL T.naL fld_lives (x_obj (pv 0)))) (x_var (pv 3)))) a_nil))))
  (b_one (s_for hp rfl (i_rg2 T.B (x_meth F_m_meeting T.CL (hr.mono (by decide)) tk (by decide) (x_obj (pv 0)) (a_cons (x_arg (pv 2)) (a_cons (x_arg (pv 3)) a_nil))) (x_var (pv 4))) (g_name (pg_name (i := 5) sc_is_placing.nd rfl (by first | exact Or.inl rfl | exact Or.inr rfl))) (b_one (s_if (t_not (t_val (x_call F_apart (hr.mono (by decide)) tk (a_cons (x_g (x_ix (x_sq (pv 1)) (x_var (pv 2)))) (a_cons (x_g (x_meth F_m_length_then T.CL (hr.mono (by decide)) tk (by decide) (x_obj (pv 0)) (a_cons (x_arg (pv 2)) (a_cons (x_arg (pv 5)) a_nil)))) (a_cons (x_g (x_ix (x_sq (pv 1)) (x_var (pv 3)))) (a_cons (x_g (x_meth F_m_length_then T.CL (hr.mono (by decide)) tk (by decide) (x_obj (pv 0)) (a_cons (x_arg (pv 3)) (a_cons (x_arg (pv 5)) a_nil)))) a_nil))))))) (b_one (s_ret x_bl)) b_nil))))))
  (b_one (s_ret x_bl))))⟩
end
end K70

set_option Elab.async false
set_option linter.all false
set_option maxRecDepth 100000
set_option maxHeartbeats 4000000
namespace K70
open PySem PySem.Spec PyProof.Rows L2 Sm
section
variable {P : Program} {w : World} {K : PySem.W.Frag} {mg : Str → Option Value} {base : Heap} {c : Cf} {fN fV : Addr}
abbrev st_apart_pairs : Stmt := top 19
def N_apart_pairs : List Str := ["blocks", "starts", "b", "c"]
theorem sc_apart_pairs : FnScope N_apart_pairs ["blocks", "starts"] (defScope st_apart_pairs) := ⟨rfl, rfl, rfl, by decide +kernel, rfl, by decide +kernel, by decide +kernel⟩
theorem ok_apart_pairs (T : Txt c K mg fN fV) (F_apart : Fd c P w K mg base "apart" 2 p_apart) (F_m_len_pair : Md c P w K mg base "len_pair" 5 p_m_len_pair) (F_m_pairs : Md c P w K mg base "pairs" 5 p_m_pairs) (F_wrong_start : Fd c P w K mg base "wrong_start" 3 p_wrong_start) {f : Addr} {fd : FuncData} (F : Fun K "apart_pairs" "apart_pairs" st_apart_pairs f fd) : FnOk P w K mg base (L2.CX P w) 6 f fd ["blocks", "starts"] (spF c p_apart_pairs) := by
  refine fn_simE q_apart_pairs 2 4 rfl rfl F sc_apart_pairs (fun cdv A outer s H E hr tk hp => ?_)
  exact ⟨_,
  (b_cons (s_if (t_cmp (op_neD hr.units) os_ne mono_R (x_r (x_call F_wrong_start (hr.mono (by decide)) tk (a_cons (x_arg (pv 0)) (a_cons (x_arg (pv 1)) a_nil)))) (x_r (x_neg x_int)) (nomark _)) (b_one (s_ret x_bl)) b_nil)
  (b_cons (s_for hp rfl (i_seq (x_meth0 F_m_pairs T.CL (hr.mono (by decide)) tk (by decide) (x_obj (pv 0)))) (g_names [2, 3] rfl (pgs_cons (pg_name (i := 2) sc_apart_pairs.nd rfl (by first | exact Or.inl rfl | exact Or.inr rfl)) (pgs_cons (pg_name (i := 3) sc_apart_pairs.nd rfl (by first | exact Or.inl rfl | exact Or.inr rfl)) pgs_nil))) (b_one (s_if (t_not (t_val (x_call F_apart (hr.mono (by decide)) tk (a_cons (x_g (x_ix (x_sq (pv 1)) (x_var (pv 2)))) (a_cons (x_g (x_meth F_m_len_pair T.CL (hr.mono (by decide)) tk (by decide) (x_obj (pv 0)) (a_cons (x_arg (pv 2)) (a_cons (x_arg (pv 3)) a_nil)))) (a_cons (x_g (x_ix (x_sq (pv 1)) (x_var (pv 3)))) (a_cons (x_g (x_meth F_m_len_pair T.CL (hr.mono (by decide)) tk (by decide) (x_obj (pv 0)) (a_cons (x_arg (pv 3)) (a_cons (x_arg (pv 2)) a_nil)))) a_nil))))))) (b_one (s_ret x_bl)) b_nil)))
  (b_one (s_ret x_bl))))⟩
end
end K70

set_option Elab.async false
set_option linter.all false
set_option maxRecDepth 100000
set_option maxHeartbeats 4000000
namespace K70
open PySem PySem.Spec PyProof.Rows L2 Sm
section
variable {P : Program} {w : World} {K : PySem.W.Frag} {mg : Str → Option Value} {base : Heap} {c : Cf} {fN fV : Addr}
abbrev st_end_of : Stmt := top 20
def N_end_of : List Str := ["blocks", "starts", "place", "b", "start"]
theorem sc_end_of : FnScope N_end_of ["blocks", "starts"] (defScope st_end_of) := ⟨rfl, rfl, rfl, by decide +kernel, rfl, by decide +kernel, by decide +kernel⟩
theorem ok_end_of (T : Txt c K mg fN fV) (F_wrong_start : Fd c P w K mg base "wrong_start" 3 p_wrong_start) {f : Addr} {fd : FuncData} (F : Fun K "end_of" "end_of" st_end_of f fd) : FnOk P w K mg base (L2.CX P w) 4 f fd ["blocks", "starts"] (spF c p_end_of) := by
  refine fn_simE q_end_of 2 5 rfl rfl F sc_end_of (fun cdv A outer s H E hr tk hp => ?_)
  exact ⟨_,
  (b_cons (s_set 2 sc_end_of.nd rfl (by first | exact Or.inl rfl | exact Or.inr rfl) (x_call F_wrong_start (hr.mono (by decide)) tk (a_cons (x_arg (pv 0)) (a_cons (x_arg (pv 1)) a_nil))))
  (b_cons (s_if (t_cmp (op_neD hr.units) os_ne mono_R (x_raw (pv 2)) (x_r (x_neg x_int)) (nomark _)) (b_one (s_raiseV rfl T.TV (hr.mono (by decide) : Room 1 _) tk (x_var (pv 2)))) b_nil)
  (b_one (s_ret (x_maxL T.B rfl (x_v (x_n (n_lc (own := [("b", 3), ("start", 4)]) rfl rfl sc_end_of.nd (i_en T.B (x_var (pv 1))) (blkOk_by (N := N_end_of) (sc := defScope st_end_of) (by decide +kernel)) (fun _ _ _ _ _ => (g_names [3, 4] rfl (pgs_cons (pg_name (i := 3) sc_end_of.nd rfl (Or.inl rfl)) (pgs_cons (pg_name (i := 4) sc_end_of.nd rfl (Or.inl rfl)) pgs_nil)))) (by decide) (fun _ _ _ _ _ => ts_nil) (fun _ _ _ _ _ => (x_bin op_addU os_add mono_E (x_var (pv 4)) (x_ix (x_v (x_ix (x_v (x_ix (x_v (x_fld T.CL T.naL fld_lives (x_obj (pv 0)))) (x_var (pv 3)))) x_int)) x_int)))))))))))⟩
end
end K70

set_option Elab.async false
set_option linter.all false
set_option maxRecDepth 100000
set_option maxHeartbeats 4000000
namespace K70
open PySem PySem.Spec PyProof.Rows L2 Sm
section
variable {P : Program} {w : World} {K : PySem.W.Frag} {mg : Str → Option Value} {base : Heap} {c : Cf} {fN fV : Addr}
abbrev st_u_law_draws : Stmt := top 22
def N_u_law_draws : List Str := ["script", "drawn", "cell", "left", "turn"]
theorem sc_u_law_draws : FnScope N_u_law_draws ["script"] (defScope st_u_law_draws) := ⟨rfl, rfl, rfl, by decide +kernel, rfl, by decide +kernel, by decide +kernel⟩
theorem ok_u_law_draws (T : Txt c K mg fN fV)  {f : Addr} {fd : FuncData} (F : Fun K "_law_draws" "_law_draws" st_u_law_draws f fd) : FnOk P w K mg base (L2.CX P w) 2 f fd ["script"] (spF c p_u_law_draws) := by
  refine fn_simE q_u_law_draws 1 5 rfl rfl F sc_u_law_draws (fun cdv A outer s H E hr tk hp => ?_)
  exact ⟨_,
  (b_cons (s_setN 1 sc_u_law_draws.nd rfl (by first | exact Or.inl rfl | exact Or.inr rfl) (n_lst a_nil))
  (b_cons (s_for hp rfl (i_seq (x_n (n_slS T.hK (x_scr (pv 0)) o_none (o_some x_int)))) (g_name (pg_name (i := 2) sc_u_law_draws.nd rfl (by first | exact Or.inl rfl | exact Or.inr rfl))) (b_cons (s_set 3 sc_u_law_draws.nd rfl (by first | exact Or.inl rfl | exact Or.inr rfl) (x_abs T.B (x_int1 T.B (x_var (pv 2)))))
  (b_one (s_for hp rfl (i_rg1 T.B x_int) (g_name (pg_name (i := 4) sc_u_law_draws.nd rfl (by first | exact Or.inl rfl | exact Or.inr rfl))) (b_cons (s_app 1 (pv 1) (x_bin op_modN os_mod mono_E (x_int1 T.B (x_var (pv 3))) x_int))
  (b_cons (s_set 3 sc_u_law_draws.nd rfl (by first | exact Or.inl rfl | exact Or.inr rfl) (x_bin op_fdivN os_div mono_E (x_var (pv 3)) x_int))
  (b_one (s_if (t_cmp (op_eqD hr.units) os_eq mono_R (x_raw (pv 3)) (x_r x_int) (nomark _)) (b_one s_brk) b_nil))))))))
  (b_frz 1 (b_one (s_ret (x_var (pv 1)))))))⟩
end
end K70

set_option Elab.async false
set_option linter.all false
set_option maxRecDepth 100000
set_option maxHeartbeats 4000000
namespace K70
open PySem PySem.Spec PyProof.Rows L2 Sm
section
variable {P : Program} {w : World} {K : PySem.W.Frag} {mg : Str → Option Value} {base : Heap} {c : Cf} {fN fV : Addr}
abbrev st_u_law_pick : Stmt := top 23
def N_u_law_pick : List Str := ["drawn", "at", "many"]
theorem sc_u_law_pick : FnScope N_u_law_pick ["drawn", "at", "many"] (defScope st_u_law_pick) := ⟨rfl, rfl, rfl, by decide +kernel, rfl, by decide +kernel, by decide +kernel⟩
theorem ok_u_law_pick (T : Txt c K mg fN fV)  {f : Addr} {fd : FuncData} (F : Fun K "_law_pick" "_law_pick" st_u_law_pick f fd) : FnOk P w K mg base (L2.CX P w) 2 f fd ["drawn", "at", "many"] (spF c p_u_law_pick) := by
  refine fn_simE q_u_law_pick 3 3 rfl rfl F sc_u_law_pick (fun cdv A outer s H E hr tk hp => ?_)
  exact ⟨_,
  (b_cons (s_if (t_pw (w_and (t_cmp op_lt os_lt mono_E (x_bin op_addU os_add mono_E (x_var (pv 1)) x_int) (x_len T.B (x_sq (pv 0))) (nomark _)) (w_and1 (t_cmp op_gt os_gt mono_E (x_var (pv 2)) x_int (nomark _))))) (b_one (s_ret (x_bin op_modN os_mod mono_E (x_int1 T.B (x_bin op_addU os_add mono_E (x_bin op_mulU os_mul mono_E (x_ix (x_sq (pv 0)) (x_var (pv 1))) x_int) (x_ix (x_sq (pv 0)) (x_bin op_addU os_add mono_E (x_var (pv 1)) x_int)))) (x_var (pv 2))))) b_nil)
  (b_cons (s_if (t_cmp op_lt os_lt mono_E (x_var (pv 1)) (x_len T.B (x_sq (pv 0))) (nomark _)) (b_one (s_ret (x_bin op_modN os_mod mono_E (x_int1 T.B (x_ix (x_sq (pv 0)) (x_var (pv 1)))) (x_var (pv 2))))) b_nil)
  (b_one (s_ret x_int))))⟩
end
end K70

set_option Elab.async false
set_option linter.all false
set_option maxRecDepth 100000
set_option maxHeartbeats 4000000
namespace K70
open PySem PySem.Spec PyProof.Rows L2 Sm
section
variable {P : Program} {w : World} {K : PySem.W.Frag} {mg : Str → Option Value} {base : Heap} {c : Cf} {fN fV : Addr}
abbrev st_u_law_far : Stmt := top 24
def N_u_law_far : List Str := ["drawn", "at", "number", "step"]
theorem sc_u_law_far : FnScope N_u_law_far ["drawn", "at"] (defScope st_u_law_far) := ⟨rfl, rfl, rfl, by decide +kernel, rfl, by decide +kernel, by decide +kernel⟩
theorem ok_u_law_far (T : Txt c K mg fN fV) (F_u_law_pick : Fd c P w K mg base "_law_pick" 2 p_u_law_pick) {f : Addr} {fd : FuncData} (F : Fun K "_law_far" "_law_far" st_u_law_far f fd) : FnOk P w K mg base (L2.CX P w) 3 f fd ["drawn", "at"] (spF c p_u_law_far) := by
  refine fn_simE q_u_law_far 2 4 rfl rfl F sc_u_law_far (fun cdv A outer s H E hr tk hp => ?_)
  exact ⟨_,
  (b_cons (s_set 2 sc_u_law_far.nd rfl (by first | exact Or.inl rfl | exact Or.inr rfl) x_int)
  (b_cons (s_for hp rfl (i_rg1 T.B x_int) (g_name (pg_name (i := 3) sc_u_law_far.nd rfl (by first | exact Or.inl rfl | exact Or.inr rfl))) (b_one (s_set 2 sc_u_law_far.nd rfl (by first | exact Or.inl rfl | exact Or.inr rfl) (x_bin op_addU os_add mono_E (x_bin op_mulU os_mul mono_E (x_var (pv 2)) x_int) (x_call F_u_law_pick (hr.mono (by decide)) tk (a_cons (x_arg (pv 0)) (a_cons (x_g (x_bin op_addU os_add mono_E (x_var (pv 1)) (x_var (pv 3)))) (a_cons (x_g x_int) a_nil))))))))
  (b_one (s_ret (x_var (pv 2))))))⟩
end
end K70

set_option Elab.async false
set_option linter.all false
set_option maxRecDepth 100000
set_option maxHeartbeats 4000000
namespace K70
open PySem PySem.Spec PyProof.Rows L2 Sm
section
variable {P : Program} {w : World} {K : PySem.W.Frag} {mg : Str → Option Value} {base : Heap} {c : Cf} {fN fV : Addr}
abbrev st_u_law_lives : Stmt := top 25
def N_u_law_lives : List Str := ["drawn", "many", "unit", "lives", "first", "b", "at", "length", "lengths", "moment"]
theorem sc_u_law_lives : FnScope N_u_law_lives ["drawn", "many", "unit"] (defScope st_u_law_lives) := ⟨rfl, rfl, rfl, by decide +kernel, rfl, by decide +kernel, by decide +kernel⟩
theorem ok_u_law_lives (T : Txt c K mg fN fV) (F_u_law_pick : Fd c P w K mg base "_law_pick" 2 p_u_law_pick) {f : Addr} {fd : FuncData} (F : Fun K "_law_lives" "_law_lives" st_u_law_lives f fd) : FnOk P w K mg base (L2.CX P w) 3 f fd ["drawn", "many", "unit"] (spF c p_u_law_lives) := by
  refine fn_simE q_u_law_lives 3 10 rfl rfl F sc_u_law_lives (fun cdv A outer s H E hr tk hp => ?_)
  exact ⟨_,
  (b_cons (s_setN 3 sc_u_law_lives.nd rfl (by first | exact Or.inl rfl | exact Or.inr rfl) (n_lst a_nil))
  (b_cons (s_set 4 sc_u_law_lives.nd rfl (by first | exact Or.inl rfl | exact Or.inr rfl) (x_call F_u_law_pick (hr.mono (by decide)) tk (a_cons (x_arg (pv 0)) (a_cons (x_g x_int) (a_cons (x_g x_int) a_nil)))))
  (b_cons (s_for hp rfl (i_rg1 T.B (x_var (pv 1))) (g_name (pg_name (i := 5) sc_u_law_lives.nd rfl (by first | exact Or.inl rfl | exact Or.inr rfl))) (b_cons (s_set 6 sc_u_law_lives.nd rfl (by first | exact Or.inl rfl | exact Or.inr rfl) (x_bin op_addU os_add mono_E x_int (x_bin op_mulU os_mul mono_E x_int (x_var (pv 5)))))
  (b_cons (s_set 4 sc_u_law_lives.nd rfl (by first | exact Or.inl rfl | exact Or.inr rfl) (x_bin op_addU os_add mono_E (x_var (pv 4)) (x_call F_u_law_pick (hr.mono (by decide)) tk (a_cons (x_arg (pv 0)) (a_cons (x_arg (pv 6)) (a_cons (x_g x_int) a_nil))))))
  (b_cons (s_set 7 sc_u_law_lives.nd rfl (by first | exact Or.inl rfl | exact Or.inr rfl) (x_call F_u_law_pick (hr.mono (by decide)) tk (a_cons (x_arg (pv 0)) (a_cons (x_g (x_bin op_addU os_add mono_E (x_var (pv 6)) x_int)) (a_cons (x_g x_int) a_nil)))))
  (b_cons (s_setN 8 sc_u_law_lives.nd rfl (by first | exact Or.inl rfl | exact Or.inr rfl) (n_lst a_nil))
  (b_cons (s_for hp rfl (i_rg1 T.B (x_bin op_addU os_add mono_E x_int (x_call F_u_law_pick (hr.mono (by decide)) tk (a_cons (x_arg (pv 0)) (a_cons (x_g (x_bin op_addU os_add mono_E (x_var (pv 6)) x_int)) (a_cons (x_g x_int) a_nil)))))) (g_name (pg_name (i := 9) sc_u_law_lives.nd rfl (by first | exact Or.inl rfl | exact Or.inr rfl))) (b_cons (s_app 8 (pv 8) (x_bin op_mulU os_mul mono_E (x_var (pv 7)) (x_var (pv 2))))
  (b_one (s_set 7 sc_u_law_lives.nd rfl (by first | exact Or.inl rfl | exact Or.inr rfl) (x_max2 T.B rfl x_int (x_bin op_sub os_sub mono_E (x_var (pv 7)) (x_ix (x_v (x_n (n_lst (a_cons (x_g x_int) (a_cons (x_g x_int) (a_cons (x_g x_int) (a_cons (x_g x_int) a_nil))))))) (x_call F_u_law_pick (hr.mono (by decide)) tk (a_cons (x_arg (pv 0)) (a_cons (x_g (x_bin op_addU os_add mono_E (x_bin op_addU os_add mono_E (x_var (pv 6)) x_int) (x_var (pv 9)))) (a_cons (x_g x_int) a_nil)))))))))))
  (b_one (s_app 3 (pv 3) (x_tup (a_cons (x_arg (pv 4)) (a_cons (x_g (x_tuple T.B (x_sq (pv 8)))) a_nil)))))))))))
  (b_frz 3 (b_one (s_ret (x_var (pv 3))))))))⟩
end
end K70

set_option Elab.async false
set_option linter.all false
set_option maxRecDepth 100000
set_option maxHeartbeats 4000000
namespace K70
open PySem PySem.Spec PyProof.Rows L2 Sm
section
variable {P : Program} {w : World} {K : PySem.W.Frag} {mg : Str → Option Value} {base : Heap} {c : Cf} {fN fV : Addr}
abbrev st_u_law_length : Stmt := top 26
def N_u_law_length : List Str := ["life", "moment"]
theorem sc_u_law_length : FnScope N_u_law_length ["life", "moment"] (defScope st_u_law_length) := ⟨rfl, rfl, rfl, by decide +kernel, rfl, by decide +kernel, by decide +kernel⟩
theorem ok_u_law_length (T : Txt c K mg fN fV)  {f : Addr} {fd : FuncData} (F : Fun K "_law_length" "_law_length" st_u_law_length f fd) : FnOk P w K mg base (L2.CX P w) 2 f fd ["life", "moment"] (spF c p_u_law_length) := by
  refine fn_simE q_u_law_length 2 2 rfl rfl F sc_u_law_length (fun cdv A outer s H E hr tk hp => ?_)
  exact ⟨_,
  (b_cons (s_if (t_pw (w_or (t_cmp op_lt os_lt mono_E (x_var (pv 1)) (x_ix (x_sq (pv 0)) x_int) (nomark _)) (w_or1 (t_cmp op_ge os_ge mono_E (x_var (pv 1)) (x_bin op_addU os_add mono_E (x_ix (x_sq (pv 0)) x_int) (x_len T.B (x_v (x_ix (x_sq (pv 0)) x_int)))) (nomark _))))) (b_one (s_ret (x_neg x_int))) b_nil)
  (b_one (s_ret (x_ix (x_v (x_ix (x_sq (pv 0)) x_int)) (x_bin op_sub os_sub mono_E (x_var (pv 1)) (x_ix (x_sq (pv 0)) x_int))))))⟩
end
end K70

set_option Elab.async false
set_option linter.all false
set_option maxRecDepth 100000
set_option maxHeartbeats 4000000
namespace K70
open PySem PySem.Spec PyProof.Rows L2 Sm
section
variable {P : Program} {w : World} {K : PySem.W.Frag} {mg : Str → Option Value} {base : Heap} {c : Cf} {fN fV : Addr}
abbrev st_u_law_meeting : Stmt := top 27
def N_u_law_meeting : List Str := ["lives", "b", "c", "moment"]
theorem sc_u_law_meeting : FnScope N_u_law_meeting ["lives", "b", "c"] (defScope st_u_law_meeting) := ⟨rfl, rfl, rfl, by decide +kernel, rfl, by decide +kernel, by decide +kernel⟩
theorem ok_u_law_meeting (T : Txt c K mg fN fV) (F_u_law_length : Fd c P w K mg base "_law_length" 2 p_u_law_length) {f : Addr} {fd : FuncData} (F : Fun K "_law_meeting" "_law_meeting" st_u_law_meeting f fd) : FnOk P w K mg base (L2.CX P w) 3 f fd ["lives", "b", "c"] (spF c p_u_law_meeting) := by
  refine fn_simE q_u_law_meeting 3 4 rfl rfl F sc_u_law_meeting (fun cdv A outer s H E hr tk hp => ?_)
  exact ⟨_,
  (b_cons (s_if (t_cmp (op_eqD hr.units) os_eq mono_R (x_raw (pv 1)) (x_raw (pv 2)) (nomark _)) (b_one (s_ret (x_neg x_int))) b_nil)
  (b_cons (s_for hp rfl (i_rg1 T.B x_int) (g_name (pg_name (i := 3) sc_u_law_meeting.nd rfl (by first | exact Or.inl rfl | exact Or.inr rfl))) (b_one (s_if (t_pw (w_and (t_cmp op_ge os_ge mono_E (x_call F_u_law_length (hr.mono (by decide)) tk (a_cons (x_g (x_ix (x_sq (pv 0)) (x_var (pv 1)))) (a_cons (x_arg (pv 3)) a_nil))) x_int (nomark _)) (w_and1 (t_cmp op_ge os_ge mono_E (x_call F_u_law_length (hr.mono (by decide)) tk (a_cons (x_g (x_ix (x_sq (pv 0)) (x_var (pv 2)))) (a_cons (x_arg (pv 3)) a_nil))) x_int (nomark _))))) (b_one (s_ret (x_var (pv 3)))) b_nil)))
  (b_one (s_ret (x_neg x_int)))))⟩
end
end K70

set_option Elab.async false
set_option linter.all false
set_option maxRecDepth 100000
set_option maxHeartbeats 4000000
namespace K70
open PySem PySem.Spec PyProof.Rows L2 Sm
section
variable {P : Program} {w : World} {K : PySem.W.Frag} {mg : Str → Option Value} {base : Heap} {c : Cf} {fN fV : Addr}
abbrev st_u_law_apart : Stmt := top 28
def N_u_law_apart : List Str := ["lives", "starts", "moment", "b", "c", "one", "two"]
theorem sc_u_law_apart : FnScope N_u_law_apart ["lives", "starts", "moment"] (defScope st_u_law_apart) := ⟨rfl, rfl, rfl, by decide +kernel, rfl, by decide +kernel, by decide +kernel⟩
theorem ok_u_law_apart (T : Txt c K mg fN fV) (F_u_law_length : Fd c P w K mg base "_law_length" 2 p_u_law_length) {f : Addr} {fd : FuncData} (F : Fun K "_law_apart" "_law_apart" st_u_law_apart f fd) : FnOk P w K mg base (L2.CX P w) 3 f fd ["lives", "starts", "moment"] (spF c p_u_law_apart) := by
  refine fn_simE q_u_law_apart 3 7 rfl rfl F sc_u_law_apart (fun cdv A outer s H E hr tk hp => ?_)
  exact ⟨_,
  (b_cons (s_for hp rfl (i_rg1 T.B (x_len T.B (x_sq (pv 0)))) (g_name (pg_name (i := 3) sc_u_law_apart.nd rfl (by first | exact Or.inl rfl | exact Or.inr rfl))) (b_one (s_for hp rfl (i_rg1 T.B (x_var (pv 3))) (g_name (pg_name (i := 4) sc_u_law_apart.nd rfl (by first | exact Or.inl rfl | exact Or.inr rfl))) (b_cons (s_set 5 sc_u_law_apart.nd rfl (by first | exact Or.inl rfl | exact Or.inr rfl) (x_call F_u_law_length (hr.mono (by decide)) tk (a_cons (x_g (x_ix (x_sq (pv 0)) (x_var (pv 3)))) (a_cons (x_arg (pv 2)) a_nil))))
  (b_cons (s_set 6 sc_u_law_apart.nd rfl (by first | exact Or.inl rfl | exact Or.inr rfl) (x_call F_u_law_length (hr.mono (by decide)) tk (a_cons (x_g (x_ix (x_sq (pv 0)) (x_var (pv 4)))) (a_cons (x_arg (pv 2)) a_nil))))
  (b_one (s_if (t_pw (w_and (t_cmp op_ge os_ge mono_E (x_var (pv 5)) x_int (nomark _)) (w_and (t_cmp op_ge os_ge mono_E (x_var (pv 6)) x_int (nomark _)) (w_and (t_cmp op_gt os_gt mono_E (x_bin op_addU os_add mono_E (x_ix (x_sq (pv 1)) (x_var (pv 3))) (x_var (pv 5))) (x_ix (x_sq (pv 1)) (x_var (pv 4))) (nomark _)) (w_and1 (t_cmp op_gt os_gt mono_E (x_bin op_addU os_add mono_E (x_ix (x_sq (pv 1)) (x_var (pv 4))) (x_var (pv 6))) (x_ix (x_sq (pv 1)) (x_var (pv 3))) (nomark _))))))) (b_one (s_ret x_bl)) b_nil)))))))
  (b_one (s_ret x_bl)))⟩
end
end K70

set_option Elab.async false
set_option linter.all false
set_option maxRecDepth 100000
set_option maxHeartbeats 4000000
namespace K70
open PySem PySem.Spec PyProof.Rows L2 Sm
section
variable {P : Program} {w : World} {K : PySem.W.Frag} {mg : Str → Option Value} {base : Heap} {c : Cf} {fN fV : Addr}
abbrev st_u_law_placed : Stmt := top 29
def N_u_law_placed : List Str := ["lives", "starts", "moment"]
theorem sc_u_law_placed : FnScope N_u_law_placed ["lives", "starts"] (defScope st_u_law_placed) := ⟨rfl, rfl, rfl, by decide +kernel, rfl, by decide +kernel, by decide +kernel⟩
theorem ok_u_law_placed (T : Txt c K mg fN fV) (F_u_law_apart : Fd c P w K mg base "_law_apart" 3 p_u_law_apart) {f : Addr} {fd : FuncData} (F : Fun K "_law_placed" "_law_placed" st_u_law_placed f fd) : FnOk P w K mg base (L2.CX P w) 4 f fd ["lives", "starts"] (spF c p_u_law_placed) := by
  refine fn_simE q_u_law_placed 2 3 rfl rfl F sc_u_law_placed (fun cdv A outer s H E hr tk hp => ?_)
  exact ⟨_,
  (b_cons (s_for hp rfl (i_rg1 T.B x_int) (g_name (pg_name (i := 2) sc_u_law_placed.nd rfl (by first | exact Or.inl rfl | exact Or.inr rfl))) (b_one (s_if (t_not (t_val (x_call F_u_law_apart (hr.mono (by decide)) tk (a_cons (x_arg (pv 0)) (a_cons (x_arg (pv 1)) (a_cons (x_arg (pv 2)) a_nil)))))) (b_one (s_ret x_bl)) b_nil)))
  (b_one (s_ret x_bl)))⟩
end
end K70

set_option Elab.async false
set_option linter.all false
set_option maxRecDepth 100000
set_option maxHeartbeats 4000000
namespace K70
open PySem PySem.Spec PyProof.Rows L2 Sm
section
variable {P : Program} {w : World} {K : PySem.W.Frag} {mg : Str → Option Value} {base : Heap} {c : Cf} {fN fV : Addr}
abbrev st_u_law_heaviest : Stmt := top 30
def N_u_law_heaviest : List Str := ["lives", "best", "moment", "total", "there", "life"]
theorem sc_u_law_heaviest : FnScope N_u_law_heaviest ["lives"] (defScope st_u_law_heaviest) := ⟨rfl, rfl, rfl, by decide +kernel, rfl, by decide +kernel, by decide +kernel⟩
theorem ok_u_law_heaviest (T : Txt c K mg fN fV) (F_u_law_length : Fd c P w K mg base "_law_length" 2 p_u_law_length) {f : Addr} {fd : FuncData} (F : Fun K "_law_heaviest" "_law_heaviest" st_u_law_heaviest f fd) : FnOk P w K mg base (L2.CX P w) 3 f fd ["lives"] (spF c p_u_law_heaviest) := by
  refine fn_simE q_u_law_heaviest 1 6 rfl rfl F sc_u_law_heaviest (fun cdv A outer s H E hr tk hp => ?_)
  exact ⟨_,
  (b_cons (s_set 1 sc_u_law_heaviest.nd rfl (by first | exact Or.inl rfl | exact Or.inr rfl) (x_tup (a_cons (x_g x_int) (a_cons (x_g (x_neg x_int)) a_nil))))
  (b_cons (s_for hp rfl (i_rg1 T.B x_int) (g_name (pg_name (i := 2) sc_u_law_heaviest.nd rfl (by first | exact Or.inl rfl | exact Or.inr rfl))) (b_cons (s_set 3 sc_u_law_heaviest.nd rfl (by first | exact Or.inl rfl | exact Or.inr rfl) x_int)
  (b_cons (s_set 4 sc_u_law_heaviest.nd rfl (by first | exact Or.inl rfl | exact Or.inr rfl) x_bl)
  (b_cons (s_for hp rfl (i_seq (x_var (pv 0))) (g_name (pg_name (i := 5) sc_u_law_heaviest.nd rfl (by first | exact Or.inl rfl | exact Or.inr rfl))) (b_one (s_if (t_cmp op_ge os_ge mono_E (x_call F_u_law_length (hr.mono (by decide)) tk (a_cons (x_arg (pv 5)) (a_cons (x_arg (pv 2)) a_nil))) x_int (nomark _)) (b_cons (s_set 4 sc_u_law_heaviest.nd rfl (by first | exact Or.inl rfl | exact Or.inr rfl) x_bl)
  (b_one (s_set 3 sc_u_law_heaviest.nd rfl (by first | exact Or.inl rfl | exact Or.inr rfl) (x_bin op_addU os_add mono_E (x_var (pv 3)) (x_call F_u_law_length (hr.mono (by decide)) tk (a_cons (x_arg (pv 5)) (a_cons (x_arg (pv 2)) a_nil))))))) b_nil)))
  (b_one (s_if (t_pw (w_and (t_val (x_var (pv 4))) (w_and1 (t_cmp op_gt os_gt mono_E (x_var (pv 3)) (x_ix (x_sq (pv 1)) x_int) (nomark _))))) (b_one (s_set 1 sc_u_law_heaviest.nd rfl (by first | exact Or.inl rfl | exact Or.inr rfl) (x_tup (a_cons (x_arg (pv 2)) (a_cons (x_arg (pv 3)) a_nil))))) b_nil))))))
  (b_one (s_ret (x_var (pv 1))))))⟩
end
end K70

set_option Elab.async false
set_option linter.all false
set_option maxRecDepth 100000
set_option maxHeartbeats 4000000
namespace K70
open PySem PySem.Spec PyProof.Rows L2 Sm
section
variable {P : Program} {w : World} {K : PySem.W.Frag} {mg : Str → Option Value} {base : Heap} {c : Cf} {fN fV : Addr}
abbrev st_u_law_end : Stmt := top 31
def N_u_law_end : List Str := ["lives", "starts", "end", "b"]
theorem sc_u_law_end : FnScope N_u_law_end ["lives", "starts"] (defScope st_u_law_end) := ⟨rfl, rfl, rfl, by decide +kernel, rfl, by decide +kernel, by decide +kernel⟩
theorem ok_u_law_end (T : Txt c K mg fN fV)  {f : Addr} {fd : FuncData} (F : Fun K "_law_end" "_law_end" st_u_law_end f fd) : FnOk P w K mg base (L2.CX P w) 2 f fd ["lives", "starts"] (spF c p_u_law_end) := by
  refine fn_simE q_u_law_end 2 4 rfl rfl F sc_u_law_end (fun cdv A outer s H E hr tk hp => ?_)
  exact ⟨_,
  (b_cons (s_set 2 sc_u_law_end.nd rfl (by first | exact Or.inl rfl | exact Or.inr rfl) x_int)
  (b_cons (s_for hp rfl (i_rg1 T.B (x_len T.B (x_sq (pv 0)))) (g_name (pg_name (i := 3) sc_u_law_end.nd rfl (by first | exact Or.inl rfl | exact Or.inr rfl))) (b_one (s_set 2 sc_u_law_end.nd rfl (by first | exact Or.inl rfl | exact Or.inr rfl) (x_max2 T.B rfl (x_var (pv 2)) (x_bin op_addU os_add mono_E (x_ix (x_sq (pv 1)) (x_var (pv 3))) (x_ix (x_v (x_ix (x_v (x_ix (x_sq (pv 0)) (x_var (pv 3)))) x_int)) x_int))))))
  (b_one (s_ret (x_var (pv 2))))))⟩
end
end K70

set_option Elab.async false
set_option linter.all false
set_option maxRecDepth 100000
set_option maxHeartbeats 4000000
namespace K70
open PySem PySem.Spec PyProof.Rows L2 Sm
section
variable {P : Program} {w : World} {K : PySem.W.Frag} {mg : Str → Option Value} {base : Heap} {c : Cf} {fN fV : Addr}
abbrev st_u_law_number : Stmt := top 32
def N_u_law_number : List Str := ["blocks", "asked", "b", "c", "name", "e"]
theorem sc_u_law_number : FnScope N_u_law_number ["blocks", "asked", "b", "c"] (defScope st_u_law_number) := ⟨rfl, rfl, rfl, by decide +kernel, rfl, by decide +kernel, by decide +kernel⟩
theorem ok_u_law_number (T : Txt c K mg fN fV) (F_m_len_pair : Md c P w K mg base "len_pair" 5 p_m_len_pair) (F_m_length_then : Md c P w K mg base "length_then" 4 p_m_length_then) (F_m_meeting : Md c P w K mg base "meeting" 4 p_m_meeting) {f : Addr} {fd : FuncData} (F : Fun K "_law_number" "_law_number" st_u_law_number f fd) : FnOk P w K mg base (L2.CX P w) 6 f fd ["blocks", "asked", "b", "c"] (spF c p_u_law_number) := by
  refine fn_simE q_u_law_number 4 6 rfl rfl F sc_u_law_number (fun cdv A outer s H E hr tk hp => ?_)
  exact ⟨_,
  (b_cons (s_set 4 sc_u_law_number.nd rfl (by first | exact Or.inl rfl | exact Or.inr rfl) x_str)
  (b_cons (s_tryN (i := 5) 4 rfl rfl sc_u_law_number.nd rfl rfl T.TN tk rfl (fun W' pn xe tk' hp => ((b_one (s_if (t_cmp (op_eqD hr.units) os_eq mono_R (x_raw (pv 1)) (x_r x_int) (nomark _)) (b_one (s_drop (x_meth F_m_meeting T.CL (hr.mono (by decide)) tk' (by decide) (x_obj (pv 0)) (a_cons (x_arg (pv 2)) (a_cons (x_arg (pv 3)) a_nil))))) (b_one (s_if (t_cmp (op_eqD hr.units) os_eq mono_R (x_raw (pv 1)) (x_r x_int) (nomark _)) (b_one (s_drop (x_meth F_m_len_pair T.CL (hr.mono (by decide)) tk' (by decide) (x_obj (pv 0)) (a_cons (x_arg (pv 2)) (a_cons (x_arg (pv 3)) a_nil))))) (b_one (s_drop (x_meth F_m_length_then T.CL (hr.mono (by decide)) tk' (by decide) (x_obj (pv 0)) (a_cons (x_arg (pv 2)) (a_cons (x_arg (pv 3)) a_nil))))))))) : XB _ c W' _ _ (qIf (pTest (p2 fEq (pRaw 1) (pK (.int 0)))) (qDrop (pMeth p_m_meeting (pObj 0) (pCons (pArg 2) (pCons (pArg 3) pNil)))) (qIf (pTest (p2 fEq (pRaw 1) (pK (.int 1)))) (qDrop (pMeth p_m_len_pair (pObj 0) (pCons (pArg 2) (pCons (pArg 3) pNil)))) (qDrop (pMeth p_m_length_then (pObj 0) (pCons (pArg 2) (pCons (pArg 3) pNil))))))).ps) (fun W' => (ss_if (simT_test (sim_op os_eq mono_R (sim_raw 1) (sim_r (sim_int 0)))) (ss_drop (sim_meth (by decide) (sim_obj 0) (simA_cons (sim_arg 2) (simA_cons (sim_arg 3) simA_nil)))) (ss_if (simT_test (sim_op os_eq mono_R (sim_raw 1) (sim_r (sim_int 1)))) (ss_drop (sim_meth (by decide) (sim_obj 0) (simA_cons (sim_arg 2) (simA_cons (sim_arg 3) simA_nil)))) (ss_drop (sim_meth (by decide) (sim_obj 0) (simA_cons (sim_arg 2) (simA_cons (sim_arg 3) simA_nil))))))) (fun a oe cls d pn hz hf => pss_one (ps_set (i := 4) sc_u_law_number.nd rfl (by first | exact Or.inl rfl | exact Or.inr rfl) (by exact (pe_byLowN T.TN hz hf (pv 5))))))
  (b_one (s_ret (x_var (pv 4))))))⟩
end
end K70

set_option Elab.async false
set_option linter.all false
set_option maxRecDepth 100000
set_option maxHeartbeats 4000000
namespace K70
open PySem PySem.Spec PyProof.Rows L2 Sm
section
variable {P : Program} {w : World} {K : PySem.W.Frag} {mg : Str → Option Value} {base : Heap} {c : Cf} {fN fV : Addr}
abbrev st_u_law_value : Stmt := top 33
def N_u_law_value : List Str := ["lives", "place", "e"]
theorem sc_u_law_value : FnScope N_u_law_value ["lives"] (defScope st_u_law_value) := ⟨rfl, rfl, rfl, by decide +kernel, rfl, by decide +kernel, by decide +kernel⟩
theorem ok_u_law_value (T : Txt c K mg fN fV) (F_m_uinit : Mkd c P w K mg base "Blocks" 4 p_m_uinit) {f : Addr} {fd : FuncData} (F : Fun K "_law_value" "_law_value" st_u_law_value f fd) : FnOk P w K mg base (L2.CX P w) 6 f fd ["lives"] (spF c p_u_law_value) := by
  refine fn_simE q_u_law_value 1 3 rfl rfl F sc_u_law_value (fun cdv A outer s H E hr tk hp => ?_)
  exact ⟨_,
  (b_cons (s_set 1 sc_u_law_value.nd rfl (by first | exact Or.inl rfl | exact Or.inr rfl) (x_neg x_int))
  (b_cons (s_tryV (i := 2) 1 rfl rfl sc_u_law_value.nd rfl rfl T.TV tk rfl (fun W' pn xe tk' hp => ((b_one (s_drop (x_make F_m_uinit (hr.mono (by decide)) tk' (a_consR (x_argR (pv 0)) a_nil)))) : XB _ c W' _ _ (qDrop (pMake p_m_uinit (pCons (pArgR 0) pNil)))).ps) (fun W' => (ss_drop (sim_make (simA_consR (sim_argR 0) simA_nil)))) (fun a oe cls d pn hz hf => pss_one (ps_set (i := 1) sc_u_law_value.nd rfl (by first | exact Or.inl rfl | exact Or.inr rfl) (by exact (pe_byLowV T.TV hz hf (pv 2))))))
  (b_one (s_ret (x_var (pv 1))))))⟩
end
end K70

set_option Elab.async false
set_option linter.all false
set_option maxRecDepth 100000
set_option maxHeartbeats 4000000
namespace K70
open PySem PySem.Spec PyProof.Rows L2 Sm
section
variable {P : Program} {w : World} {K : PySem.W.Frag} {mg : Str → Option Value} {base : Heap} {c : Cf} {fN fV : Addr}
abbrev st_u_law_no_pair : Stmt := top 34
def N_u_law_no_pair : List Str := ["blocks", "b", "c", "place", "e"]
theorem sc_u_law_no_pair : FnScope N_u_law_no_pair ["blocks", "b", "c"] (defScope st_u_law_no_pair) := ⟨rfl, rfl, rfl, by decide +kernel, rfl, by decide +kernel, by decide +kernel⟩
theorem ok_u_law_no_pair (T : Txt c K mg fN fV) (F_m_len_pair : Md c P w K mg base "len_pair" 5 p_m_len_pair) {f : Addr} {fd : FuncData} (F : Fun K "_law_no_pair" "_law_no_pair" st_u_law_no_pair f fd) : FnOk P w K mg base (L2.CX P w) 6 f fd ["blocks", "b", "c"] (spF c p_u_law_no_pair) := by
  refine fn_simE q_u_law_no_pair 3 5 rfl rfl F sc_u_law_no_pair (fun cdv A outer s H E hr tk hp => ?_)
  exact ⟨_,
  (b_cons (s_set 3 sc_u_law_no_pair.nd rfl (by first | exact Or.inl rfl | exact Or.inr rfl) (x_neg x_int))
  (b_cons (s_tryV (i := 4) 3 rfl rfl sc_u_law_no_pair.nd rfl rfl T.TV tk rfl (fun W' pn xe tk' hp => ((b_one (s_drop (x_meth F_m_len_pair T.CL (hr.mono (by decide)) tk' (by decide) (x_obj (pv 0)) (a_cons (x_arg (pv 1)) (a_cons (x_arg (pv 2)) a_nil))))) : XB _ c W' _ _ (qDrop (pMeth p_m_len_pair (pObj 0) (pCons (pArg 1) (pCons (pArg 2) pNil))))).ps) (fun W' => (ss_drop (sim_meth (by decide) (sim_obj 0) (simA_cons (sim_arg 1) (simA_cons (sim_arg 2) simA_nil))))) (fun a oe cls d pn hz hf => pss_one (ps_set (i := 3) sc_u_law_no_pair.nd rfl (by first | exact Or.inl rfl | exact Or.inr rfl) (by exact (pe_byLowV T.TV hz hf (pv 4))))))
  (b_one (s_ret (x_cmp (op_eqD hr.units) os_eq mono_R (x_raw (pv 3)) (x_r x_int) (nomark _))))))⟩
end
end K70

set_option Elab.async false
set_option linter.all false
set_option maxRecDepth 100000
set_option maxHeartbeats 4000000
namespace K70
open PySem PySem.Spec PyProof.Rows L2 Sm
section
variable {P : Program} {w : World} {K : PySem.W.Frag} {mg : Str → Option Value} {base : Heap} {c : Cf} {fN fV : Addr}
abbrev st_u_law_looked : Stmt := top 35
def N_u_law_looked : List Str := ["blocks", "lives", "many", "pairs", "b", "c", "moment", "due"]
theorem sc_u_law_looked : FnScope N_u_law_looked ["blocks", "lives"] (defScope st_u_law_looked) := ⟨rfl, rfl, rfl, by decide +kernel, rfl, by decide +kernel, by decide +kernel⟩
theorem ok_u_law_looked (T : Txt c K mg fN fV) (F_u_law_heaviest : Fd c P w K mg base "_law_heaviest" 3 p_u_law_heaviest) (F_u_law_length : Fd c P w K mg base "_law_length" 2 p_u_law_length) (F_u_law_meeting : Fd c P w K mg base "_law_meeting" 3 p_u_law_meeting) (F_u_law_no_pair : Fd c P w K mg base "_law_no_pair" 6 p_u_law_no_pair) (F_u_law_number : Fd c P w K mg base "_law_number" 6 p_u_law_number) (F_m_heaviest : Md c P w K mg base "heaviest" 3 p_m_heaviest) (F_m_len_pair : Md c P w K mg base "len_pair" 5 p_m_len_pair) (F_m_length_then : Md c P w K mg base "length_then" 4 p_m_length_then) (F_m_meeting : Md c P w K mg base "meeting" 4 p_m_meeting) (F_m_pairs : Md c P w K mg base "pairs" 5 p_m_pairs) {f : Addr} {fd : FuncData} (F : Fun K "_law_looked" "_law_looked" st_u_law_looked f fd) : FnOk P w K mg base (L2.CX P w) 7 f fd ["blocks", "lives"] (spF c p_u_law_looked) := by
  refine fn_simE q_u_law_looked 2 8 rfl rfl F sc_u_law_looked (fun cdv A outer s H E hr tk hp => ?_)
  exact ⟨_,
  (b_cons (s_set 2 sc_u_law_looked.nd rfl (by first | exact Or.inl rfl | exact Or.inr rfl) (x_len T.B (x_sq (pv 1))))
  (b_cons (s_if (t_pw (w_or (t_cmp (op_neD hr.units) os_ne mono_R (x_r (x_fld T.CL T.naM fld_many (x_obj (pv 0)))) (x_raw (pv 2)) (nomark _)) (w_or (t_cmp (op_neD hr.units) os_ne mono_R (x_r (x_fld T.CL T.naL fld_lives (x_obj (pv 0)))) (x_r (x_tuple T.B (x_sq (pv 1)))) (nomark _)) (w_or1 (t_cmp (op_neD hr.units) os_ne mono_R (x_r (x_meth0 F_m_heaviest T.CL (hr.mono (by decide)) tk (by decide) (x_obj (pv 0)))) (x_r (x_call F_u_law_heaviest (hr.mono (by decide)) tk (a_cons (x_arg (pv 1)) a_nil))) (nomark _)))))) (b_one (s_ret x_bl)) b_nil)
  (b_cons (s_setN 3 sc_u_law_looked.nd rfl (by first | exact Or.inl rfl | exact Or.inr rfl) (n_lst a_nil))
  (b_cons (s_for hp rfl (i_rg1 T.B (x_var (pv 2))) (g_name (pg_name (i := 4) sc_u_law_looked.nd rfl (by first | exact Or.inl rfl | exact Or.inr rfl))) (b_cons (s_for hp rfl (i_rg1 T.B (x_var (pv 2))) (g_name (pg_name (i := 5) sc_u_law_looked.nd rfl (by first | exact Or.inl rfl | exact Or.inr rfl))) (b_cons (s_set 6 sc_u_law_looked.nd rfl (by first | exact Or.inl rfl | exact Or.inr rfl) (x_call F_u_law_meeting (hr.mono (by decide)) tk (a_cons (x_arg (pv 1)) (a_cons (x_arg (pv 4)) (a_cons (x_arg (pv 5)) a_nil)))))
  (b_cons (s_if (t_cmp (op_neD hr.units) os_ne mono_R (x_r (x_meth F_m_meeting T.CL (hr.mono (by decide)) tk (by decide) (x_obj (pv 0)) (a_cons (x_arg (pv 4)) (a_cons (x_arg (pv 5)) a_nil)))) (x_raw (pv 6)) (nomark _)) (b_one (s_ret x_bl)) b_nil)
  (b_cons (s_if (t_pw (w_and (t_cmp op_ge os_ge mono_E (x_var (pv 6)) x_int (nomark _)) (w_and1 (t_cmp op_lt os_lt mono_E (x_var (pv 4)) (x_var (pv 5)) (nomark _))))) (b_one (s_app 3 (pv 3) (x_tup (a_cons (x_arg (pv 4)) (a_cons (x_arg (pv 5)) a_nil))))) b_nil)
  (b_cons (s_if (t_pw (w_and (t_cmp op_ge os_ge mono_E (x_var (pv 6)) x_int (nomark _)) (w_and1 (t_cmp (op_neD hr.units) os_ne mono_R (x_r (x_meth F_m_len_pair T.CL (hr.mono (by decide)) tk (by decide) (x_obj (pv 0)) (a_cons (x_arg (pv 4)) (a_cons (x_arg (pv 5)) a_nil)))) (x_r (x_call F_u_law_length (hr.mono (by decide)) tk (a_cons (x_g (x_ix (x_sq (pv 1)) (x_var (pv 4)))) (a_cons (x_arg (pv 6)) a_nil)))) (nomark _))))) (b_one (s_ret x_bl)) b_nil)
  (b_one (s_if (t_pw (w_and (t_cmp op_lt os_lt mono_E (x_var (pv 6)) x_int (nomark _)) (w_and1 (t_not (t_val (x_call F_u_law_no_pair (hr.mono (by decide)) tk (a_cons (x_arg (pv 0)) (a_cons (x_arg (pv 4)) (a_cons (x_arg (pv 5)) a_nil))))))))) (b_one (s_ret x_bl)) b_nil)))))))
  (b_one (s_for hp rfl (i_rg1 T.B (x_bin op_addU os_add mono_E (x_bin op_addU os_add mono_E (x_ix (x_v (x_ix (x_sq (pv 1)) (x_var (pv 4)))) x_int) (x_len T.B (x_v (x_ix (x_v (x_ix (x_sq (pv 1)) (x_var (pv 4)))) x_int)))) x_int)) (g_name (pg_name (i := 6) sc_u_law_looked.nd rfl (by first | exact Or.inl rfl | exact Or.inr rfl))) (b_cons (s_set 7 sc_u_law_looked.nd rfl (by first | exact Or.inl rfl | exact Or.inr rfl) (x_call F_u_law_length (hr.mono (by decide)) tk (a_cons (x_g (x_ix (x_sq (pv 1)) (x_var (pv 4)))) (a_cons (x_arg (pv 6)) a_nil))))
  (b_cons (s_if (t_pw (w_and (t_cmp op_ge os_ge mono_E (x_var (pv 7)) x_int (nomark _)) (w_and1 (t_cmp (op_neD hr.units) os_ne mono_R (x_r (x_meth F_m_length_then T.CL (hr.mono (by decide)) tk (by decide) (x_obj (pv 0)) (a_cons (x_arg (pv 4)) (a_cons (x_arg (pv 6)) a_nil)))) (x_raw (pv 7)) (nomark _))))) (b_one (s_ret x_bl)) b_nil)
  (b_one (s_if (t_pw (w_and (t_cmp op_lt os_lt mono_E (x_var (pv 7)) x_int (nomark _)) (w_and1 (t_cmp (op_neD hr.units) os_ne mono_R (x_r (x_call F_u_law_number (hr.mono (by decide)) tk (a_cons (x_arg (pv 0)) (a_cons (x_g x_int) (a_cons (x_arg (pv 4)) (a_cons (x_arg (pv 6)) a_nil)))))) (x_r x_str) (nomark _))))) (b_one (s_ret x_bl)) b_nil))))))))
  (b_one (s_ret (x_and (x_isi T.B (x_r (x_meth0 F_m_pairs T.CL (hr.mono (by decide)) tk (by decide) (x_obj (pv 0)))) (pe_ty T.B.tuple bb_tuple)) (x_one (x_cmp (op_eqD hr.units) os_eq mono_R (x_r (x_meth0 F_m_pairs T.CL (hr.mono (by decide)) tk (by decide) (x_obj (pv 0)))) (x_r (x_tuple T.B (x_sq (pv 3)))) (nomark _))))))))))⟩
end
end K70

set_option Elab.async false
set_option linter.all false
set_option maxRecDepth 100000
set_option maxHeartbeats 4000000
namespace K70
open PySem PySem.Spec PyProof.Rows L2 Sm
section
variable {P : Program} {w : World} {K : PySem.W.Frag} {mg : Str → Option Value} {base : Heap} {c : Cf} {fN fV : Addr}
abbrev st_u_law_started : Stmt := top 36
def N_u_law_started : List Str := ["blocks", "lives", "starts", "due", "turn", "kept", "told", "pairs"]
theorem sc_u_law_started : FnScope N_u_law_started ["blocks", "lives", "starts"] (defScope st_u_law_started) := ⟨rfl, rfl, rfl, by decide +kernel, rfl, by decide +kernel, by decide +kernel⟩
theorem ok_u_law_started (T : Txt c K mg fN fV) (F_u_law_end : Fd c P w K mg base "_law_end" 2 p_u_law_end) (F_u_law_placed : Fd c P w K mg base "_law_placed" 4 p_u_law_placed) (F_apart_pairs : Fd c P w K mg base "apart_pairs" 6 p_apart_pairs) (F_end_of : Fd c P w K mg base "end_of" 4 p_end_of) (F_is_placing : Fd c P w K mg base "is_placing" 6 p_is_placing) {f : Addr} {fd : FuncData} (F : Fun K "_law_started" "_law_started" st_u_law_started f fd) : FnOk P w K mg base (L2.CX P w) 7 f fd ["blocks", "lives", "starts"] (spF c p_u_law_started) := by
  refine fn_simE q_u_law_started 3 8 rfl rfl F sc_u_law_started (fun cdv A outer s H E hr tk hp => ?_)
  exact ⟨_,
  (b_cons (s_set 3 sc_u_law_started.nd rfl (by first | exact Or.inl rfl | exact Or.inr rfl) (x_call F_u_law_placed (hr.mono (by decide)) tk (a_cons (x_arg (pv 1)) (a_cons (x_arg (pv 2)) a_nil))))
  (b_cons (s_for hp rfl (i_rg1 T.B x_int) (g_name (pg_name (i := 4) sc_u_law_started.nd rfl (by first | exact Or.inl rfl | exact Or.inr rfl))) (b_cons (s_set 5 sc_u_law_started.nd rfl (by first | exact Or.inl rfl | exact Or.inr rfl) (x_ix (x_v (x_n (n_lst (a_cons (x_g (x_n (n_list T.B (x_sq (pv 2))))) (a_cons (x_g (x_tuple T.B (x_sq (pv 2)))) a_nil))))) (x_var (pv 4))))
  (b_cons (s_set 6 sc_u_law_started.nd rfl (by first | exact Or.inl rfl | exact Or.inr rfl) (x_call F_is_placing (hr.mono (by decide)) tk (a_cons (x_arg (pv 0)) (a_cons (x_arg (pv 5)) a_nil))))
  (b_cons (s_set 7 sc_u_law_started.nd rfl (by first | exact Or.inl rfl | exact Or.inr rfl) (x_call F_apart_pairs (hr.mono (by decide)) tk (a_cons (x_arg (pv 0)) (a_cons (x_arg (pv 5)) a_nil))))
  (b_cons (s_if (t_pw (w_or (t_not (t_val (x_isi T.B (x_raw (pv 6)) (pe_ty T.B.bool bb_bool)))) (w_or (t_cmp (op_neD hr.units) os_ne mono_R (x_raw (pv 6)) (x_raw (pv 3)) (nomark _)) (w_or (t_not (t_val (x_isi T.B (x_raw (pv 7)) (pe_ty T.B.bool bb_bool)))) (w_or1 (t_cmp (op_neD hr.units) os_ne mono_R (x_raw (pv 7)) (x_raw (pv 3)) (nomark _))))))) (b_one (s_ret x_bl)) b_nil)
  (b_one (s_if (t_cmp (op_neD hr.units) os_ne mono_R (x_r (x_call F_end_of (hr.mono (by decide)) tk (a_cons (x_arg (pv 0)) (a_cons (x_arg (pv 5)) a_nil)))) (x_r (x_call F_u_law_end (hr.mono (by decide)) tk (a_cons (x_arg (pv 1)) (a_cons (x_arg (pv 2)) a_nil)))) (nomark _)) (b_one (s_ret x_bl)) b_nil)))))))
  (b_one (s_ret x_bl))))⟩
end
end K70

set_option Elab.async false
set_option linter.all false
set_option maxRecDepth 100000
set_option maxHeartbeats 4000000
namespace K70
open PySem PySem.Spec PyProof.Rows L2 Sm
section
variable {P : Program} {w : World} {K : PySem.W.Frag} {mg : Str → Option Value} {base : Heap} {c : Cf} {fN fV : Addr}
abbrev st_u_law_wrong_starts : Stmt := top 37
def N_u_law_wrong_starts : List Str := ["blocks", "starts", "many", "rows", "row", "place", "e"]
theorem sc_u_law_wrong_starts : FnScope N_u_law_wrong_starts ["blocks", "starts"] (defScope st_u_law_wrong_starts) := ⟨rfl, rfl, rfl, by decide +kernel, rfl, by decide +kernel, by decide +kernel⟩
theorem ok_u_law_wrong_starts (T : Txt c K mg fN fV) (F_apart_pairs : Fd c P w K mg base "apart_pairs" 6 p_apart_pairs) (F_end_of : Fd c P w K mg base "end_of" 4 p_end_of) (F_is_placing : Fd c P w K mg base "is_placing" 6 p_is_placing) {f : Addr} {fd : FuncData} (F : Fun K "_law_wrong_starts" "_law_wrong_starts" st_u_law_wrong_starts f fd) : FnOk P w K mg base (L2.CX P w) 7 f fd ["blocks", "starts"] (spF c p_u_law_wrong_starts) := by
  refine fn_simE q_u_law_wrong_starts 2 7 rfl rfl F sc_u_law_wrong_starts (fun cdv A outer s H E hr tk hp => ?_)
  exact ⟨_,
  (b_cons (s_set 2 sc_u_law_wrong_starts.nd rfl (by first | exact Or.inl rfl | exact Or.inr rfl) (x_len T.B (x_sq (pv 1))))
  (b_cons (s_setN 3 sc_u_law_wrong_starts.nd rfl (by first | exact Or.inl rfl | exact Or.inr rfl) (n_lst (a_cons (x_g (x_tup (a_cons (x_g x_int) (a_cons (x_g x_int) a_nil)))) (a_cons (x_g (x_tup (a_cons (x_g (x_n (n_sl (x_sq (pv 1)) o_none (o_some (x_neg x_int))))) (a_cons (x_g (x_bin op_sub os_sub mono_E (x_var (pv 2)) x_int)) a_nil)))) (a_cons (x_g (x_tup (a_cons (x_g (x_bin op_addU os_add mono_E (x_var (pv 1)) (x_n (n_lst (a_cons (x_g x_int) a_nil))))) (a_cons (x_arg (pv 2)) a_nil)))) (a_cons (x_g (x_tup (a_cons (x_g (x_bin op_addU os_add mono_E (x_n (n_lst (a_cons (x_g (x_neg x_int)) a_nil))) (x_n (n_sl (x_sq (pv 1)) (o_some x_int) o_none)))) (a_cons (x_g x_int) a_nil)))) (a_cons (x_g (x_tup (a_cons (x_g (x_bin op_addU os_add mono_E (x_n (n_lst (a_cons (x_g x_bl) a_nil))) (x_n (n_sl (x_sq (pv 1)) (o_some x_int) o_none)))) (a_cons (x_g x_int) a_nil)))) a_nil)))))))
  (b_cons (s_app 3 (pv 3) (x_tup (a_cons (x_g (x_bin op_addU os_add mono_E (x_n (n_sl (x_sq (pv 1)) o_none (o_some (x_neg x_int)))) (x_n (n_lst (a_cons (x_g x_non) a_nil))))) (a_cons (x_g (x_bin op_sub os_sub mono_E (x_var (pv 2)) x_int)) a_nil))))
  (b_frz 3 (b_cons (s_for hp rfl (i_seq (x_var (pv 3))) (g_name (pg_name (i := 4) sc_u_law_wrong_starts.nd rfl (by first | exact Or.inl rfl | exact Or.inr rfl))) (b_cons (s_set 5 sc_u_law_wrong_starts.nd rfl (by first | exact Or.inl rfl | exact Or.inr rfl) (x_neg x_int))
  (b_cons (s_tryV (i := 6) 5 rfl rfl sc_u_law_wrong_starts.nd rfl rfl T.TV tk rfl (fun W' pn xe tk' hp => ((b_one (s_drop (x_call F_end_of (hr.mono (by decide)) tk' (a_cons (x_arg (pv 0)) (a_cons (x_g (x_ix (x_sq (pv 4)) x_int)) a_nil))))) : XB _ c W' _ _ (qDrop (pCall p_end_of (pCons (pArg 0) (pCons (pD (p2 fIx (pSq 4) (pK (.int 0)))) pNil))))).ps) (fun W' => (ss_drop (sim_call (simA_cons (sim_arg 0) (simA_cons (sim_g (sim_op os_ix mono_V (sim_sq 4) (sim_int 0))) simA_nil))))) (fun a oe cls d pn hz hf => pss_one (ps_set (i := 5) sc_u_law_wrong_starts.nd rfl (by first | exact Or.inl rfl | exact Or.inr rfl) (by exact (pe_byLowV T.TV hz hf (pv 6))))))
  (b_one (s_if (t_pw (w_or (t_cmp (op_neD hr.units) os_ne mono_R (x_raw (pv 5)) (x_r (x_ix (x_sq (pv 4)) x_int)) (nomark _)) (w_or (t_cmp op_notBl os_notB mono_E (x_call F_is_placing (hr.mono (by decide)) tk (a_cons (x_arg (pv 0)) (a_cons (x_g (x_ix (x_sq (pv 4)) x_int)) a_nil))) x_bl (nomark _)) (w_or1 (t_cmp op_notBl os_notB mono_E (x_call F_apart_pairs (hr.mono (by decide)) tk (a_cons (x_arg (pv 0)) (a_cons (x_g (x_ix (x_sq (pv 4)) x_int)) a_nil))) x_bl (nomark _)))))) (b_one (s_ret x_bl)) b_nil)))))
  (b_one (s_ret x_bl)))))))⟩
end
end K70

set_option Elab.async false
set_option linter.all false
set_option maxRecDepth 100000
set_option maxHeartbeats 4000000
namespace K70
open PySem PySem.Spec PyProof.Rows L2 Sm
section
variable {P : Program} {w : World} {K : PySem.W.Frag} {mg : Str → Option Value} {base : Heap} {c : Cf} {fN fV : Addr}
abbrev st_u_law_refusals : Stmt := top 38
def N_u_law_refusals : List Str := ["lives", "last", "many", "rows", "b", "row", "at"]
theorem sc_u_law_refusals : FnScope N_u_law_refusals ["lives"] (defScope st_u_law_refusals) := ⟨rfl, rfl, rfl, by decide +kernel, rfl, by decide +kernel, by decide +kernel⟩
theorem ok_u_law_refusals (T : Txt c K mg fN fV) (F_m_uinit : Mkd c P w K mg base "Blocks" 4 p_m_uinit) (F_u_law_value : Fd c P w K mg base "_law_value" 6 p_u_law_value) {f : Addr} {fd : FuncData} (F : Fun K "_law_refusals" "_law_refusals" st_u_law_refusals f fd) : FnOk P w K mg base (L2.CX P w) 7 f fd ["lives"] (spF c p_u_law_refusals) := by
  refine fn_simE q_u_law_refusals 1 7 rfl rfl F sc_u_law_refusals (fun cdv A outer s H E hr tk hp => ?_)
  exact ⟨_,
  (b_cons (s_set 1 sc_u_law_refusals.nd rfl (by first | exact Or.inl rfl | exact Or.inr rfl) (x_ix (x_v (x_ix (x_sq (pv 0)) (x_neg x_int))) x_int))
  (b_cons (s_set 2 sc_u_law_refusals.nd rfl (by first | exact Or.inl rfl | exact Or.inr rfl) (x_len T.B (x_sq (pv 0))))
  (b_cons (s_set 3 sc_u_law_refusals.nd rfl (by first | exact Or.inl rfl | exact Or.inr rfl) (x_n (n_lst (a_cons (x_g (x_tup (a_cons (x_g x_int) (a_cons (x_g x_int) a_nil)))) (a_cons (x_g (x_tup (a_cons (x_g (x_n (n_lst a_nil))) (a_cons (x_g x_int) a_nil)))) (a_cons (x_g (x_tup (a_cons (x_g (x_bin op_addU os_add mono_E (x_var (pv 0)) (x_n (n_lst (a_cons (x_g (x_tup (a_cons (x_g (x_bin op_sub os_sub mono_E (x_var (pv 1)) x_int)) (a_cons (x_g (x_tup (a_cons (x_g x_int) a_nil))) a_nil)))) a_nil))))) (a_cons (x_arg (pv 2)) a_nil)))) (a_cons (x_g (x_tup (a_cons (x_g (x_bin op_addU os_add mono_E (x_var (pv 0)) (x_n (n_lst (a_cons (x_g (x_tup (a_cons (x_arg (pv 1)) (a_cons (x_g (x_tup (a_cons (x_g x_int) (a_cons (x_g x_int) a_nil)))) a_nil)))) a_nil))))) (a_cons (x_arg (pv 2)) a_nil)))) a_nil)))))))
  (b_cons (s_set 3 sc_u_law_refusals.nd rfl (by first | exact Or.inl rfl | exact Or.inr rfl) (x_bin op_addU os_add mono_E (x_var (pv 3)) (x_n (n_lst (a_cons (x_g (x_tup (a_cons (x_g (x_bin op_addU os_add mono_E (x_var (pv 0)) (x_n (n_lst (a_cons (x_g (x_tup (a_cons (x_arg (pv 1)) (a_cons (x_g (x_tup a_nil)) a_nil)))) a_nil))))) (a_cons (x_arg (pv 2)) a_nil)))) (a_cons (x_g (x_tup (a_cons (x_g (x_bin op_addU os_add mono_E (x_var (pv 0)) (x_n (n_lst (a_cons (x_g (x_tup (a_cons (x_arg (pv 1)) (a_cons (x_g (x_tup (a_cons (x_g (x_neg x_int)) a_nil))) a_nil)))) a_nil))))) (a_cons (x_arg (pv 2)) a_nil)))) (a_cons (x_g (x_tup (a_cons (x_g (x_bin op_addU os_add mono_E (x_var (pv 0)) (x_n (n_lst (a_cons (x_g (x_tup (a_cons (x_arg (pv 1)) (a_cons (x_g (x_tup (a_cons (x_g x_int) (a_cons (x_g x_bl) a_nil)))) a_nil)))) a_nil))))) (a_cons (x_arg (pv 2)) a_nil)))) a_nil)))))))
  (b_cons (s_set 3 sc_u_law_refusals.nd rfl (by first | exact Or.inl rfl | exact Or.inr rfl) (x_bin op_addU os_add mono_E (x_var (pv 3)) (x_n (n_lst (a_cons (x_g (x_tup (a_cons (x_g (x_bin op_addU os_add mono_E (x_var (pv 0)) (x_n (n_lst (a_cons (x_g (x_tup (a_cons (x_g x_bl) (a_cons (x_g (x_tup (a_cons (x_g x_int) a_nil))) a_nil)))) a_nil))))) (a_cons (x_arg (pv 2)) a_nil)))) (a_cons (x_g (x_tup (a_cons (x_g (x_bin op_addU os_add mono_E (x_var (pv 0)) (x_n (n_lst (a_cons (x_g (x_tup (a_cons (x_arg (pv 1)) (a_cons (x_g (x_tup (a_cons (x_g x_int) a_nil))) (a_cons (x_g x_int) a_nil))))) a_nil))))) (a_cons (x_arg (pv 2)) a_nil)))) (a_cons (x_g (x_tup (a_cons (x_g (x_bin op_addU os_add mono_E (x_n (n_lst (a_cons (x_g (x_tup (a_cons (x_g (x_neg x_int)) (a_cons (x_g (x_tup (a_cons (x_g x_int) a_nil))) a_nil)))) a_nil))) (x_var (pv 0)))) (a_cons (x_g x_int) a_nil)))) a_nil)))))))
  (b_cons (s_set 3 sc_u_law_refusals.nd rfl (by first | exact Or.inl rfl | exact Or.inr rfl) (x_bin op_addU os_add mono_E (x_var (pv 3)) (x_n (n_lst (a_cons (x_g (x_tup (a_cons (x_g (x_bin op_addU os_add mono_E (x_var (pv 0)) (x_n (n_lst (a_cons (x_g x_int) a_nil))))) (a_cons (x_arg (pv 2)) a_nil)))) (a_cons (x_g (x_tup (a_cons (x_g (x_bin op_addU os_add mono_E (x_var (pv 0)) (x_n (n_lst (a_cons (x_g (x_tup (a_cons (x_arg (pv 1)) (a_cons (x_g x_int) a_nil)))) a_nil))))) (a_cons (x_arg (pv 2)) a_nil)))) (a_cons (x_g (x_tup (a_cons (x_g (x_bin op_addU os_add mono_E (x_bin op_addU os_add mono_E (x_var (pv 0)) (x_n (n_lst (a_cons (x_g (x_tup (a_cons (x_arg (pv 1)) (a_cons (x_g (x_tup (a_cons (x_g x_int) (a_cons (x_g x_int) (a_cons (x_g x_int) a_nil))))) a_nil)))) a_nil)))) (x_n (n_lst (a_cons (x_g x_int) a_nil))))) (a_cons (x_arg (pv 2)) a_nil)))) a_nil)))))))
  (b_cons (s_set 3 sc_u_law_refusals.nd rfl (by first | exact Or.inl rfl | exact Or.inr rfl) (x_bin op_addU os_add mono_E (x_var (pv 3)) (x_n (n_lst (a_cons (x_g (x_tup (a_cons (x_g (x_n (n_lc (own := [("b", 4)]) rfl rfl sc_u_law_refusals.nd (i_rg1 T.B x_int) (blkOk_by (N := N_u_law_refusals) (sc := defScope st_u_law_refusals) (by decide +kernel)) (fun _ _ _ _ _ => (g_name (pg_name (i := 4) sc_u_law_refusals.nd rfl (Or.inl rfl)))) (by decide) (fun _ _ _ _ _ => ts_nil) (fun _ _ _ _ _ => (x_tup (a_cons (x_g x_int) (a_cons (x_g (x_tup (a_cons (x_g x_int) a_nil))) a_nil))))))) (a_cons (x_g x_int) a_nil)))) (a_cons (x_g (x_tup (a_cons (x_g (x_bin op_addU os_add mono_E (x_n (n_lc (own := [("b", 4)]) rfl rfl sc_u_law_refusals.nd (i_rg1 T.B x_int) (blkOk_by (N := N_u_law_refusals) (sc := defScope st_u_law_refusals) (by decide +kernel)) (fun _ _ _ _ _ => (g_name (pg_name (i := 4) sc_u_law_refusals.nd rfl (Or.inl rfl)))) (by decide) (fun _ _ _ _ _ => ts_nil) (fun _ _ _ _ _ => (x_tup (a_cons (x_arg (pv 4)) (a_cons (x_g (x_tup (a_cons (x_arg (pv 4)) a_nil))) a_nil)))))) (x_n (n_lst (a_cons (x_g x_int) a_nil))))) (a_cons (x_g x_int) a_nil)))) a_nil))))))
  (b_cons (s_for hp rfl (i_seq (x_var (pv 3))) (g_name (pg_name (i := 5) sc_u_law_refusals.nd rfl (by first | exact Or.inl rfl | exact Or.inr rfl))) (b_one (s_if (t_cmp (op_neD hr.units) os_ne mono_R (x_r (x_call F_u_law_value (hr.mono (by decide)) tk (a_cons (x_g (x_ix (x_sq (pv 5)) x_int)) a_nil))) (x_r (x_ix (x_sq (pv 5)) x_int)) (nomark _)) (b_one (s_ret x_bl)) b_nil)))
  (b_one (s_ret (x_cmp (op_eqD hr.units) os_eq mono_R (x_r (x_fld T.CL T.naM fld_many (x_make F_m_uinit (hr.mono (by decide)) tk (a_consR (x_gr (x_n (n_lc (own := [("at", 6)]) rfl rfl sc_u_law_refusals.nd (i_rg1 T.B x_int) (blkOk_by (N := N_u_law_refusals) (sc := defScope st_u_law_refusals) (by decide +kernel)) (fun _ _ _ _ _ => (g_name (pg_name (i := 6) sc_u_law_refusals.nd rfl (Or.inl rfl)))) (by decide) (fun _ _ _ _ _ => ts_nil) (fun _ _ _ _ _ => (x_n (n_lst (a_cons (x_arg (pv 6)) (a_cons (x_g (x_n (n_lst (a_cons (x_g x_int) (a_cons (x_g x_int) a_nil))))) a_nil)))))))) a_nil)))) (x_r x_int) (nomark _))))))))))))⟩
end
end K70

set_option Elab.async false
set_option linter.all false
set_option maxRecDepth 100000
set_option maxHeartbeats 4000000
namespace K70
open PySem PySem.Spec PyProof.Rows L2 Sm
section
variable {P : Program} {w : World} {K : PySem.W.Frag} {mg : Str → Option Value} {base : Heap} {c : Cf} {fN fV : Addr}
abbrev st_law : Stmt := top 39
def N_law : List Str := ["script", "drawn", "many", "unit", "lives", "handed", "life", "blocks", "turn", "stacked", "total", "starts", "b", "closer", "asked"]
theorem sc_law : FnScope N_law ["script"] (defScope st_law) := ⟨rfl, rfl, rfl, by decide +kernel, rfl, by decide +kernel, by decide +kernel⟩
theorem ok_law (T : Txt c K mg fN fV) (F_m_uinit : Mkd c P w K mg base "Blocks" 4 p_m_uinit) (F_u_law_draws : Fd c P w K mg base "_law_draws" 2 p_u_law_draws) (F_u_law_far : Fd c P w K mg base "_law_far" 3 p_u_law_far) (F_u_law_lives : Fd c P w K mg base "_law_lives" 3 p_u_law_lives) (F_u_law_looked : Fd c P w K mg base "_law_looked" 7 p_u_law_looked) (F_u_law_number : Fd c P w K mg base "_law_number" 6 p_u_law_number) (F_u_law_pick : Fd c P w K mg base "_law_pick" 2 p_u_law_pick) (F_u_law_refusals : Fd c P w K mg base "_law_refusals" 7 p_u_law_refusals) (F_u_law_started : Fd c P w K mg base "_law_started" 7 p_u_law_started) (F_u_law_wrong_starts : Fd c P w K mg base "_law_wrong_starts" 7 p_u_law_wrong_starts) (F_is_placing : Fd c P w K mg base "is_placing" 6 p_is_placing) {f : Addr} {fd : FuncData} (F : Fun K "law" "law" st_law f fd) : FnOk P w K mg base (L2.CX P w) 8 f fd ["script"] (spF c p_law) := by
  refine fn_simE q_law 1 15 rfl rfl F sc_law (fun cdv A outer s H E hr tk hp => ?_)
  exact ⟨_,
  (b_cons (s_set 1 sc_law.nd rfl (by first | exact Or.inl rfl | exact Or.inr rfl) (x_call F_u_law_draws (hr.mono (by decide)) tk (a_cons (x_arg (pv 0)) a_nil)))
  (b_cons (s_set 2 sc_law.nd rfl (by first | exact Or.inl rfl | exact Or.inr rfl) (x_bin op_addU os_add mono_E x_int (x_call F_u_law_pick (hr.mono (by decide)) tk (a_cons (x_arg (pv 1)) (a_cons (x_g x_int) (a_cons (x_g x_int) a_nil))))))
  (b_cons (s_set 3 sc_law.nd rfl (by first | exact Or.inl rfl | exact Or.inr rfl) x_int)
  (b_cons (s_if (t_cmp (op_eqD hr.units) os_eq mono_R (x_r (x_call F_u_law_pick (hr.mono (by decide)) tk (a_cons (x_arg (pv 1)) (a_cons (x_g x_int) (a_cons (x_g x_int) a_nil))))) (x_r x_int) (nomark _)) (b_one (s_set 3 sc_law.nd rfl (by first | exact Or.inl rfl | exact Or.inr rfl) (x_bin op_addU os_add mono_E x_int (x_call F_u_law_far (hr.mono (by decide)) tk (a_cons (x_arg (pv 1)) (a_cons (x_g x_int) a_nil)))))) b_nil)
  (b_cons (s_set 4 sc_law.nd rfl (by first | exact Or.inl rfl | exact Or.inr rfl) (x_call F_u_law_lives (hr.mono (by decide)) tk (a_cons (x_arg (pv 1)) (a_cons (x_arg (pv 2)) (a_cons (x_arg (pv 3)) a_nil)))))
  (b_cons (s_setLcF (i := 5) (own := [("life", 6)]) rfl rfl sc_law.nd rfl rfl (sw_true rfl rfl rfl (by decide +kernel)) (i_seq (x_var (pv 4))) (blkOk_by (N := N_law) (sc := defScope st_law) (by decide +kernel)) (fun _ _ _ _ _ => (g_name (pg_name (i := 6) sc_law.nd rfl (Or.inl rfl)))) (by decide) (fun _ _ _ _ _ => (f_lst2 (f_lf (x_ix (x_sq (pv 6)) x_int)) (f_n (n_list T.B (x_v (x_ix (x_sq (pv 6)) x_int)))))))
  (b_cons (s_setO 7 sc_law.nd rfl (by first | exact Or.inl rfl | exact Or.inr rfl) (x_make F_m_uinit (hr.mono (by decide)) tk (a_consR (x_argR (pv 5)) a_nil)))
  (b_cons (s_poke 5 (pe_ix ix_seq (pe_ix ix_seq (pv 5) pe_int (fun _ _ => rfl)) pe_int (fun _ _ => rfl)))
  (b_cons (s_apJ 5 (pv 5))
  (b_cons (s_for hp rfl (i_rg1 T.B x_int) (g_name (pg_name (i := 8) sc_law.nd rfl (by first | exact Or.inl rfl | exact Or.inr rfl))) (b_one (s_if (t_not (t_val (x_call F_u_law_looked (hr.mono (by decide)) tk (a_cons (x_arg (pv 7)) (a_cons (x_arg (pv 4)) a_nil))))) (b_one (s_ret x_bl)) b_nil)))
  (b_cons (s_setN 9 sc_law.nd rfl (by first | exact Or.inl rfl | exact Or.inr rfl) (n_lst a_nil))
  (b_cons (s_set 10 sc_law.nd rfl (by first | exact Or.inl rfl | exact Or.inr rfl) x_int)
  (b_cons (s_for hp rfl (i_seq (x_var (pv 4))) (g_name (pg_name (i := 6) sc_law.nd rfl (by first | exact Or.inl rfl | exact Or.inr rfl))) (b_cons (s_app 9 (pv 9) (x_var (pv 10)))
  (b_one (s_set 10 sc_law.nd rfl (by first | exact Or.inl rfl | exact Or.inr rfl) (x_bin op_addU os_add mono_E (x_var (pv 10)) (x_ix (x_v (x_ix (x_sq (pv 6)) x_int)) x_int))))))
  (b_frz 9 (b_cons (s_if (t_pw (w_or (t_not (t_val (x_call F_u_law_started (hr.mono (by decide)) tk (a_cons (x_arg (pv 7)) (a_cons (x_arg (pv 4)) (a_cons (x_arg (pv 9)) a_nil)))))) (w_or1 (t_not (t_val (x_call F_is_placing (hr.mono (by decide)) tk (a_cons (x_arg (pv 7)) (a_cons (x_arg (pv 9)) a_nil)))))))) (b_one (s_ret x_bl)) b_nil)
  (b_cons (s_for hp rfl (i_rg1 T.B x_int) (g_name (pg_name (i := 8) sc_law.nd rfl (by first | exact Or.inl rfl | exact Or.inr rfl))) (b_cons (s_setLc (i := 11) (own := [("b", 12)]) rfl rfl sc_law.nd rfl rfl (sw_true rfl rfl rfl (by decide +kernel)) (i_rg1 T.B (x_var (pv 2))) (blkOk_by (N := N_law) (sc := defScope st_law) (by decide +kernel)) (fun _ _ _ _ _ => (g_name (pg_name (i := 12) sc_law.nd rfl (Or.inl rfl)))) (by decide) (fun _ _ _ _ _ => ts_nil) (fun _ _ _ _ _ => (x_bin op_mulU os_mul mono_E (x_var (pv 3)) (x_call F_u_law_pick (hr.mono (by decide)) takes0 (a_cons (x_arg (pv 1)) (a_cons (x_g (x_bin op_addU os_add mono_E (x_bin op_addU os_add mono_E x_int (x_bin op_mulU os_mul mono_E (x_var (pv 2)) (x_var (pv 8)))) (x_var (pv 12)))) (a_cons (x_g x_int) a_nil)))))))
  (b_cons (s_if (t_not (t_val (x_call F_u_law_started (hr.mono (by decide)) tk (a_cons (x_arg (pv 7)) (a_cons (x_arg (pv 4)) (a_cons (x_arg (pv 11)) a_nil)))))) (b_one (s_ret x_bl)) b_nil)
  (b_cons (s_setN 13 sc_law.nd rfl (by first | exact Or.inl rfl | exact Or.inr rfl) (n_list T.B (x_sq (pv 9))))
  (b_cons (s_store 13 (pv 13) (x_bin op_modN os_mod mono_E (x_int1 T.B (x_bin op_addU os_add mono_E (x_var (pv 8)) (x_var (pv 2)))) (x_var (pv 2))) (x_max2 T.B rfl x_int (x_bin op_sub os_sub mono_E (x_ix (x_sq (pv 13)) (x_bin op_modN os_mod mono_E (x_int1 T.B (x_bin op_addU os_add mono_E (x_var (pv 8)) (x_var (pv 2)))) (x_var (pv 2)))) x_int)) (fun h1 h2 => pg_sub h1 h2 set_list))
  (b_frz 13 (b_one (s_if (t_not (t_val (x_call F_u_law_started (hr.mono (by decide)) tk (a_cons (x_arg (pv 7)) (a_cons (x_arg (pv 4)) (a_cons (x_arg (pv 13)) a_nil)))))) (b_one (s_ret x_bl)) b_nil))))))))
  (b_cons (s_if (t_not (t_val (x_call F_u_law_wrong_starts (hr.mono (by decide)) tk (a_cons (x_arg (pv 7)) (a_cons (x_arg (pv 9)) a_nil))))) (b_one (s_ret x_bl)) b_nil)
  (b_cons (s_for hp rfl (i_rg1 T.B x_int) (g_name (pg_name (i := 14) sc_law.nd rfl (by first | exact Or.inl rfl | exact Or.inr rfl))) (b_cons (s_if (t_pw (w_or (t_cmp (op_neD hr.units) os_ne mono_R (x_r (x_call F_u_law_number (hr.mono (by decide)) tk (a_cons (x_arg (pv 7)) (a_cons (x_arg (pv 14)) (a_cons (x_arg (pv 2)) (a_cons (x_arg (pv 2)) a_nil)))))) (x_r x_str) (nomark _)) (w_or1 (t_cmp (op_neD hr.units) os_ne mono_R (x_r (x_call F_u_law_number (hr.mono (by decide)) tk (a_cons (x_arg (pv 7)) (a_cons (x_arg (pv 14)) (a_cons (x_g x_int) (a_cons (x_g (x_neg x_int)) a_nil)))))) (x_r x_str) (nomark _))))) (b_one (s_ret x_bl)) b_nil)
  (b_one (s_if (t_pw (w_or (t_cmp (op_neD hr.units) os_ne mono_R (x_r (x_call F_u_law_number (hr.mono (by decide)) tk (a_cons (x_arg (pv 7)) (a_cons (x_arg (pv 14)) (a_cons (x_g x_bl) (a_cons (x_g x_int) a_nil)))))) (x_r x_str) (nomark _)) (w_or1 (t_cmp (op_neD hr.units) os_ne mono_R (x_r (x_call F_u_law_number (hr.mono (by decide)) tk (a_cons (x_arg (pv 7)) (a_cons (x_arg (pv 14)) (a_cons (x_g x_int) (a_cons (x_arg (pv 2)) a_nil)))))) (x_r x_str) (nomark _))))) (b_one (s_ret x_bl)) b_nil))))
  (b_cons (s_if (t_pw (w_or (t_cmp (op_neD hr.units) os_ne mono_R (x_r (x_call F_u_law_number (hr.mono (by decide)) tk (a_cons (x_arg (pv 7)) (a_cons (x_g x_int) (a_cons (x_arg (pv 2)) (a_cons (x_g x_int) a_nil)))))) (x_r x_str) (nomark _)) (w_or1 (t_cmp (op_neD hr.units) os_ne mono_R (x_r (x_call F_u_law_number (hr.mono (by decide)) tk (a_cons (x_arg (pv 7)) (a_cons (x_g x_int) (a_cons (x_g x_int) (a_cons (x_g x_bl) a_nil)))))) (x_r x_str) (nomark _))))) (b_one (s_ret x_bl)) b_nil)
  (b_one (s_ret (x_call F_u_law_refusals (hr.mono (by decide)) tk (a_cons (x_arg (pv 4)) a_nil)))))))))))))))))))))))⟩
end
end K70

set_option Elab.async false
set_option linter.all false
set_option maxRecDepth 100000
set_option maxHeartbeats 2000000
/-! Pl0: plain tools: how the plain functions are evaluated. -/
namespace Sm
open PySem L2

@[simp] theorem R.bind_ok {α β : Type} {a : α} {f : α → R β} : (R.ok a).bind f = f a := id rfl
@[simp] theorem R.bind_exc {α β : Type} {n : Nat} {x : PyData} {f : α → R β} : (R.exc n x).bind f = .exc n x := id rfl
@[simp] theorem R.of_some {α : Type} {a : α} : R.of (some a) = .ok a := id rfl
theorem atI_n {α : Type} (xs : List α) (i : Nat) : atI xs (i : Int) = xs[i]? := by
  unfold atI ixN
  by_cases h : i < xs.length
  · rw [if_pos (by omega), if_pos (by omega)]; rfl
  · rw [if_pos (by omega), if_neg (by omega), List.getElem?_eq_none (by omega)]; rfl
theorem atI_at {α : Type} {xs : List α} {k : Int} (h : 0 ≤ k) : atI xs k = xs[k.toNat]? := by
  have := atI_n xs k.toNat
  rwa [Int.toNat_of_nonneg h] at this
theorem atI_map {α β : Type} (f : α → β) (xs : List α) (k : Int) : atI (xs.map f) k = (atI xs k).map f := by
  unfold atI
  rw [List.length_map]
  cases ixN xs.length k with
  | none => rfl
  | some j => simp
theorem atI_0 {α : Type} {x : α} {r : List α} : atI (x :: r) 0 = some x := atI_n (x :: r) 0
theorem atI_1 {α : Type} {x y : α} {r : List α} : atI (x :: y :: r) 1 = some y := atI_n (x :: y :: r) 1
theorem atI_last {α : Type} {xs : List α} {x : α} : atI (xs ++ [x]) (-1) = some x := by
  unfold atI ixN
  rw [if_neg (by omega), if_pos (by simp; omega)]
  simp
  have h : ((-1 + ((xs.length : Int) + 1))).toNat = xs.length := by omega
  rw [h]
  simp
/-! ### kinds -/
theorem kit_int : kitB "int" "int" = some true := by decide +kernel
theorem kit_int_bool : kitB "int" "bool" = some false := by decide +kernel
theorem kit_bool_int : kitB "bool" "int" = some true := by decide +kernel
theorem kit_bool : kitB "bool" "bool" = some true := by decide +kernel
theorem kit_none_int : kitB "NoneType" "int" = some false := by decide +kernel
theorem kit_tuple : kitB "tuple" "tuple" = some true := by decide +kernel
theorem kit_list_tuple : kitB "list" "tuple" = some false := by decide +kernel
theorem kit_list : kitB "list" "list" = some true := by decide +kernel
theorem kit_int_tuple : kitB "int" "tuple" = some false := by decide +kernel
theorem kit_int_list : kitB "int" "list" = some false := by decide +kernel
@[simp] theorem isi_int_i (i : Int) : fIsi "int" (.int i) = some (.bool true) := by unfold fIsi tyN; rw [kit_int]; rfl
@[simp] theorem isi_int_b (i : Bool) : fIsi "int" (.bool i) = some (.bool true) := by unfold fIsi tyN; rw [kit_bool_int]; rfl
@[simp] theorem isi_bool_i (i : Int) : fIsi "bool" (.int i) = some (.bool false) := by unfold fIsi tyN; rw [kit_int_bool]; rfl
@[simp] theorem isi_bool_b (i : Bool) : fIsi "bool" (.bool i) = some (.bool true) := by unfold fIsi tyN; rw [kit_bool]; rfl
@[simp] theorem isi_int_n : fIsi "int" .none = some (.bool false) := by unfold fIsi tyN; rw [kit_none_int]; rfl
@[simp] theorem isi_tuple_t (x : List PyData) : fIsi "tuple" (.tuple x) = some (.bool true) := by unfold fIsi tyN; rw [kit_tuple]; rfl
@[simp] theorem isi2_t (x : List PyData) : fIsi2 "tuple" "list" (.tuple x) = some (.bool true) := by unfold fIsi2 tyN; rw [kit_tuple]
@[simp] theorem isi2_l (x : List PyData) : fIsi2 "tuple" "list" (.list x) = some (.bool true) := by unfold fIsi2 tyN; rw [kit_list_tuple]; simp only [kit_list]; rfl
@[simp] theorem isi2_i (x : Int) : fIsi2 "tuple" "list" (.int x) = some (.bool false) := by unfold fIsi2 tyN; rw [kit_int_tuple]; simp only [kit_int_list]; rfl
/-! ### equality -/
theorem shp_i (i : Int) : SeqAt.shaped (.int i) = true := by simp [SeqAt.shaped, PyData.canLay0, PyData.depth]
theorem shp_b (i : Bool) : SeqAt.shaped (.bool i) = true := by simp [SeqAt.shaped, PyData.canLay0, PyData.depth]
theorem shp_s {x : Str} (h : PySem.PyData.strOk x = true) : SeqAt.shaped (.str x) = true := by simp [SeqAt.shaped, PyData.canLay0, PyData.depth, h]
@[simp] theorem fEq_ii (i j : Int) : fEq (.int i) (.int j) = some (.bool (decide (i = j))) := by
  simp [fEq, shp_i, PyData.eqv]
  rfl
@[simp] theorem fNe_ii (i j : Int) : fNe (.int i) (.int j) = some (.bool (!decide (i = j))) := by
  simp [fNe, shp_i, PyData.eqv]
  rfl
@[simp] theorem fNe_bb (i j : Bool) : fNe (.bool i) (.bool j) = some (.bool (!decide (i = j))) := by
  simp [fNe, shp_b, PyData.eqv]
  cases i <;> cases j <;> rfl
mutual
/-- data of depth at most n that can be laid -/
def dpt : Nat → PyData → Bool
  | _, .none => true
  | _, .bool _ => true
  | _, .int _ => true
  | _, .str x => PySem.PyData.strOk x
  | n + 1, .list xs => dptAll n xs
  | n + 1, .tuple xs => dptAll n xs
  | _, _ => false
def dptAll : Nat → List PyData → Bool
  | _, [] => true
  | n, x :: r => dpt n x && dptAll n r
end
theorem dptAll_of {n : Nat} : ∀ {xs : List PyData}, (∀ x ∈ xs, dpt n x = true) → dptAll n xs = true
  | [], _ => by unfold dptAll; rfl
  | x :: r, h => by
    unfold dptAll
    rw [h x List.mem_cons_self, dptAll_of fun y hy => h y (List.mem_cons_of_mem _ hy)]
    rfl
mutual
theorem dpt_ok : ∀ (n : Nat) (d : PyData), dpt n d = true → d.canLay0 = true ∧ d.depth ≤ n
  | _, .none, _ => by simp [PyData.canLay0, PyData.depth]
  | _, .bool _, _ => by simp [PyData.canLay0, PyData.depth]
  | _, .int _, _ => by simp [PyData.canLay0, PyData.depth]
  | _, .str x, h => by
    unfold dpt at h
    simp [PyData.canLay0, PyData.depth, h]
  | 0, .list xs, h => by unfold dpt at h; cases h
  | 0, .tuple xs, h => by unfold dpt at h; cases h
  | n + 1, .list xs, h => by
    unfold dpt at h
    have := dptAll_ok n xs h
    simp [PyData.canLay0, PyData.depth, this]
  | n + 1, .tuple xs, h => by
    unfold dpt at h
    have := dptAll_ok n xs h
    simp [PyData.canLay0, PyData.depth, this]
  | n, .dict xs, h => by cases n <;> (unfold dpt at h; cases h)
theorem dptAll_ok : ∀ (n : Nat) (d : List PyData), dptAll n d = true → PyData.canLayAll0 d = true ∧ PyData.depthAll d ≤ n
  | n, [], _ => by simp [PyData.canLayAll0, PyData.depthAll]
  | n, x :: r, h => by
    unfold dptAll at h
    rw [Bool.and_eq_true] at h
    have h1 := dpt_ok n x h.1
    have h2 := dptAll_ok n r h.2
    simp [PyData.canLayAll0, PyData.depthAll, h1, h2]
    omega
end
theorem shp_of {n : Nat} {d : PyData} (hn : n ≤ 64) (h : dpt n d = true) : SeqAt.shaped d = true := by
  have := dpt_ok n d h
  unfold SeqAt.shaped
  rw [this.1, Bool.true_and]
  exact decide_eq_true (by omega)
theorem fEq_same {n : Nat} {d : PyData} (hn : n ≤ 64) (h : dpt n d = true) : fEq d d = some (.bool true) := by
  unfold fEq
  rw [shp_of hn h, PySem.SeqAt.eqv_refl d (dpt_ok n d h).1]
  rfl
theorem fNe_same {n : Nat} {d : PyData} (hn : n ≤ 64) (h : dpt n d = true) : fNe d d = some (.bool false) := by
  unfold fNe
  rw [shp_of hn h, PySem.SeqAt.eqv_refl d (dpt_ok n d h).1]
  rfl
theorem fEq_ss {x y : Str} (hx : PySem.PyData.strOk x = true) (hy : PySem.PyData.strOk y = true) : fEq (.str x) (.str y) = some (.bool (x == y)) := by
  simp [fEq, shp_s hx, shp_s hy, PyData.eqv]
theorem fNe_ss {x y : Str} (hx : PySem.PyData.strOk x = true) (hy : PySem.PyData.strOk y = true) : fNe (.str x) (.str y) = some (.bool (!(x == y))) := by
  simp [fNe, shp_s hx, shp_s hy, PyData.eqv]

/-! ### loops -/
def fTurn (g : PyData → List SV → Option (List SV)) (q : List SV → Fl) (x : PyData) (ρ : List SV) : Fl := match g x ρ with
  | none => .bad
  | some ρ1 => q ρ1
def fNext (k : List SV → Fl) : Fl → Fl
  | .nx ρ2 => k ρ2
  | .ct ρ2 => k ρ2
  | .bk ρ2 => .nx ρ2
  | .rt d => .rt d
  | .xc n x ρ' => .xc n x ρ'
  | .bad => .bad
theorem forGo_nil {g : PyData → List SV → Option (List SV)} {q : List SV → Fl} {ρ : List SV} : forGo g q [] ρ = .nx ρ := rfl
theorem forGo_cons {g : PyData → List SV → Option (List SV)} {q : List SV → Fl} {x : PyData} {xs : List PyData} {ρ : List SV} : forGo g q (x :: xs) ρ = fNext (forGo g q xs) (fTurn g q x ρ) := by
  rw [forGo]
  unfold fTurn
  cases g x ρ with
  | none => rfl
  | some ρ1 =>
    show _ = fNext (forGo g q xs) (q ρ1)
    dsimp only
    cases q ρ1 <;> rfl
theorem forGo_nx {g : PyData → List SV → Option (List SV)} {q : List SV → Fl} {x : PyData} {xs : List PyData} {ρ ρ' : List SV} (h : fTurn g q x ρ = .nx ρ') : forGo g q (x :: xs) ρ = forGo g q xs ρ' := by
  rw [forGo_cons, h]
  rfl
theorem forGo_bk {g : PyData → List SV → Option (List SV)} {q : List SV → Fl} {x : PyData} {xs : List PyData} {ρ ρ' : List SV} (h : fTurn g q x ρ = .bk ρ') : forGo g q (x :: xs) ρ = .nx ρ' := by
  rw [forGo_cons, h]
  rfl
theorem forGo_rt {g : PyData → List SV → Option (List SV)} {q : List SV → Fl} {x : PyData} {xs : List PyData} {ρ : List SV} {d : PyData} (h : fTurn g q x ρ = .rt d) : forGo g q (x :: xs) ρ = .rt d := by
  rw [forGo_cons, h]
  rfl
theorem forGo_xc {g : PyData → List SV → Option (List SV)} {q : List SV → Fl} {x : PyData} {xs : List PyData} {ρ ρ' : List SV} {n : Nat} {d : PyData} (h : fTurn g q x ρ = .xc n d ρ') : forGo g q (x :: xs) ρ = .xc n d ρ' := by
  rw [forGo_cons, h]
  rfl
section
variable {g : PyData → List SV → Option (List SV)} {q : List SV → Fl}
/-- a for whose turns keep I -/
theorem for_all : ∀ (xs : List PyData) (I : Nat → List SV → Prop) (ρ : List SV), I 0 ρ → (∀ i x ρ, xs[i]? = some x → I i ρ → ∃ ρ', fTurn g q x ρ = .nx ρ' ∧ I (i + 1) ρ') → ∃ ρ', forGo g q xs ρ = .nx ρ' ∧ I xs.length ρ'
  | [], I, ρ, h0, _ => ⟨ρ, rfl, h0⟩
  | x :: r, I, ρ, h0, hs => by
    obtain ⟨ρ1, e1, h1⟩ := hs 0 x ρ rfl h0
    obtain ⟨ρ2, e2, h2⟩ := for_all r (fun i => I (i + 1)) ρ1 h1 fun i y ρ e h => hs (i + 1) y ρ (by simpa using e) h
    exact ⟨ρ2, by rw [forGo_nx e1]; exact e2, h2⟩
/-- .. up to a turn that ends it -/
theorem for_rt {d : PyData} : ∀ (k : Nat) (xs : List PyData) (I : Nat → List SV → Prop) (ρ : List SV), k < xs.length → I 0 ρ → (∀ i x ρ, i < k → xs[i]? = some x → I i ρ → ∃ ρ', fTurn g q x ρ = .nx ρ' ∧ I (i + 1) ρ') →
    (∀ x ρ, xs[k]? = some x → I k ρ → fTurn g q x ρ = .rt d) → forGo g q xs ρ = .rt d
  | _, [], I, ρ, hk, _, _, _ => by simp at hk
  | 0, x :: r, I, ρ, hk, h0, hs, he => forGo_rt (he x ρ rfl h0)
  | k + 1, x :: r, I, ρ, hk, h0, hs, he => by
    obtain ⟨ρ1, e1, h1⟩ := hs 0 x ρ (by omega) rfl h0
    rw [forGo_nx e1]
    exact for_rt k r (fun i => I (i + 1)) ρ1 (by simpa using hk) h1 (fun i y ρ hi e h => hs (i + 1) y ρ (by omega) (by simpa using e) h) fun y ρ e h => he y ρ (by simpa using e) h
theorem for_xc {n : Nat} {d : PyData} (P : List SV → Prop) : ∀ (k : Nat) (xs : List PyData) (I : Nat → List SV → Prop) (ρ : List SV), k < xs.length → I 0 ρ → (∀ i x ρ, i < k → xs[i]? = some x → I i ρ → ∃ ρ', fTurn g q x ρ = .nx ρ' ∧ I (i + 1) ρ') →
    (∀ x ρ, xs[k]? = some x → I k ρ → ∃ ρ', fTurn g q x ρ = .xc n d ρ' ∧ P ρ') → ∃ ρ', forGo g q xs ρ = .xc n d ρ' ∧ P ρ'
  | _, [], I, ρ, hk, _, _, _ => by simp at hk
  | 0, x :: r, I, ρ, hk, h0, hs, he => by
    obtain ⟨ρ', e, p⟩ := he x ρ rfl h0
    exact ⟨ρ', forGo_xc e, p⟩
  | k + 1, x :: r, I, ρ, hk, h0, hs, he => by
    obtain ⟨ρ1, e1, h1⟩ := hs 0 x ρ (by omega) rfl h0
    rw [forGo_nx e1]
    exact for_xc P k r (fun i => I (i + 1)) ρ1 (by simpa using hk) h1 (fun i y ρ hi e h => hs (i + 1) y ρ (by omega) (by simpa using e) h) fun y ρ e h => he y ρ (by simpa using e) h
theorem for_bk (P : List SV → Prop) : ∀ (k : Nat) (xs : List PyData) (I : Nat → List SV → Prop) (ρ : List SV), k < xs.length → I 0 ρ → (∀ i x ρ, i < k → xs[i]? = some x → I i ρ → ∃ ρ', fTurn g q x ρ = .nx ρ' ∧ I (i + 1) ρ') →
    (∀ x ρ, xs[k]? = some x → I k ρ → ∃ ρ', fTurn g q x ρ = .bk ρ' ∧ P ρ') → ∃ ρ', forGo g q xs ρ = .nx ρ' ∧ P ρ'
  | _, [], I, ρ, hk, _, _, _ => by simp at hk
  | 0, x :: r, I, ρ, hk, h0, hs, he => by
    obtain ⟨ρ', e, p⟩ := he x ρ rfl h0
    exact ⟨ρ', forGo_bk e, p⟩
  | k + 1, x :: r, I, ρ, hk, h0, hs, he => by
    obtain ⟨ρ1, e1, h1⟩ := hs 0 x ρ (by omega) rfl h0
    rw [forGo_nx e1]
    exact for_bk P k r (fun i => I (i + 1)) ρ1 (by simpa using hk) h1 (fun i y ρ hi e h => hs (i + 1) y ρ (by omega) (by simpa using e) h) fun y ρ e h => he y ρ (by simpa using e) h
/-- a for whose turns keep I or end it in what P allows; a broken loop may stop with J -/
theorem for_any (J : List SV → Prop) : ∀ (xs : List PyData) (I : Nat → List SV → Prop) (ρ : List SV), I 0 ρ → (∀ i x ρ, xs[i]? = some x → I i ρ → (∃ ρ', fTurn g q x ρ = .nx ρ' ∧ I (i + 1) ρ') ∨ ∃ ρ', fTurn g q x ρ = .bk ρ' ∧ J ρ') → (∀ ρ, I xs.length ρ → J ρ) → ∃ ρ', forGo g q xs ρ = .nx ρ' ∧ J ρ'
  | [], I, ρ, h0, _, hj => ⟨ρ, rfl, hj ρ h0⟩
  | x :: r, I, ρ, h0, hs, hj => by
    rcases hs 0 x ρ rfl h0 with ⟨ρ1, e1, h1⟩ | ⟨ρ1, e1, h1⟩
    · obtain ⟨ρ2, e2, h2⟩ := for_any J r (fun i => I (i + 1)) ρ1 h1 (fun i y ρ e h => hs (i + 1) y ρ (by simpa using e) h) hj
      exact ⟨ρ2, by rw [forGo_nx e1]; exact e2, h2⟩
    · exact ⟨ρ1, forGo_bk e1, h1⟩
end
theorem rng_len (lo : Int) (n : Nat) : (rngD lo n).length = n := by simp [rngD]
theorem rng_get {lo : Int} {n i : Nat} {x : PyData} (h : (rngD lo n)[i]? = some x) : i < n ∧ x = .int (lo + (i : Int)) := by
  unfold rngD at h
  rw [List.getElem?_map] at h
  by_cases hi : i < n
  · rw [List.getElem?_range hi] at h
    cases h
    exact ⟨hi, rfl⟩
  · rw [List.getElem?_eq_none (by simp; omega)] at h
    cases h
theorem enu_len : ∀ (k : Nat) (xs : List PyData), (enumD k xs).length = xs.length
  | _, [] => rfl
  | k, x :: r => by unfold enumD; rw [List.length_cons, List.length_cons, enu_len (k + 1) r]
theorem enu_get : ∀ {k : Nat} {xs : List PyData} {i : Nat} {x : PyData}, (enumD k xs)[i]? = some x → ∃ y, xs[i]? = some y ∧ x = .tuple [.int ((k + i : Nat) : Int), y]
  | _, [], i, x, h => by simp [enumD] at h
  | k, y :: r, 0, x, h => by
    unfold enumD at h
    cases h
    exact ⟨y, rfl, rfl⟩
  | k, y :: r, i + 1, x, h => by
    unfold enumD at h
    obtain ⟨z, h1, h2⟩ := enu_get (k := k + 1) (xs := r) (i := i) (by simpa using h)
    refine ⟨z, by simpa using h1, ?_⟩
    rw [h2]
    have : k + 1 + i = k + (i + 1) := by omega
    rw [this]
theorem map_get {α β : Type} {f : α → β} {xs : List α} {i : Nat} {y : β} (h : (xs.map f)[i]? = some y) : ∃ x, xs[i]? = some x ∧ y = f x := by
  rw [List.getElem?_map] at h
  cases e : xs[i]? with
  | none => rw [e] at h; cases h
  | some x => rw [e] at h; cases h; exact ⟨x, rfl, rfl⟩
theorem get_lt {α : Type} {xs : List α} {i : Nat} {x : α} (h : xs[i]? = some x) : i < xs.length := by
  by_cases hi : i < xs.length
  · exact hi
  · rw [List.getElem?_eq_none (by omega)] at h; cases h
theorem get_of {α : Type} {xs : List α} {i : Nat} (h : i < xs.length) : ∃ x, xs[i]? = some x := ⟨xs[i], List.getElem?_eq_getElem h⟩
theorem take_step {α : Type} {xs : List α} {i : Nat} {x : α} (h : xs[i]? = some x) : xs.take (i + 1) = xs.take i ++ [x] := by
  rw [List.take_succ, h]; rfl
theorem mem_at {α : Type} {xs : List α} {i : Nat} {x : α} (h : xs[i]? = some x) : x ∈ xs := List.mem_of_getElem? h
/-! ### comprehensions -/
theorem lcGo_map {g : PyData → List SV → Option (List SV)} {pt : List SV → R Bool} {pe : List SV → R PyData} {ρ : List SV} (h : PyData → PyData) :
    ∀ (xs : List PyData), (∀ x ∈ xs, ∃ ρ1, g x ρ = some ρ1 ∧ pt ρ1 = .ok true ∧ pe ρ1 = .ok (h x)) → lcGo g pt pe ρ xs = .ok (xs.map h)
  | [], _ => rfl
  | x :: r, hs => by
    obtain ⟨ρ1, e1, e2, e3⟩ := hs x List.mem_cons_self
    unfold lcGo
    simp only [e1, e2, e3]
    rw [lcGo_map h r fun y hy => hs y (List.mem_cons_of_mem _ hy)]
    rfl
theorem lcGo_typ {α β : Type} {g : PyData → List SV → Option (List SV)} {pt : List SV → R Bool} {pe : List SV → R PyData} {ρ : List SV} (f : α → PyData) (P : α → β → Prop) (h : β → PyData) :
    ∀ (xs : List α), (∀ x ∈ xs, ∃ ρ1 y, g (f x) ρ = some ρ1 ∧ pt ρ1 = .ok true ∧ pe ρ1 = .ok (h y) ∧ P x y) → ∃ ys : List β, lcGo g pt pe ρ (xs.map f) = .ok (ys.map h) ∧ ys.length = xs.length ∧ ∀ y ∈ ys, ∃ x ∈ xs, P x y
  | [], _ => ⟨[], rfl, rfl, fun y hy => by cases hy⟩
  | x :: r, hs => by
    obtain ⟨ρ1, y, e1, e2, e3, p⟩ := hs x List.mem_cons_self
    obtain ⟨ys, k1, k2, k3⟩ := lcGo_typ f P h r fun y hy => hs y (List.mem_cons_of_mem _ hy)
    refine ⟨y :: ys, ?_, by simp [k2], fun z hz => ?_⟩
    · rw [List.map_cons]
      unfold lcGo
      simp only [e1, e2, e3]
      rw [k1]
      rfl
    · rcases List.mem_cons.mp hz with rfl | hz
      · exact ⟨x, List.mem_cons_self, p⟩
      · obtain ⟨w, hw, q⟩ := k3 z hz
        exact ⟨w, List.mem_cons_of_mem _ hw, q⟩
theorem atI_none {α : Type} {xs : List α} {k : Int} (h : (xs.length : Int) ≤ k) : atI xs k = none := by
  unfold atI ixN
  rw [if_pos (by omega), if_neg (by omega)]
  rfl
end Sm

set_option Elab.async false
set_option linter.all false
set_option maxRecDepth 100000
set_option maxHeartbeats 2000000
/-! Pl1: rows for simp. -/
namespace Sm
open PySem L2
section
variable {α β γ : Type} {ρ : List SV}
@[simp] theorem ev_V (i : Nat) : pV i ρ = (match ρ[i]? with | some (.d x) => .ok x | _ => .bad) := id rfl
@[simp] theorem ev_Raw (i : Nat) : pRaw i ρ = (match ρ[i]? with | some (.d x) => .ok x | some (.own xs) => .ok (.list xs) | _ => .bad) := id rfl
@[simp] theorem ev_Sq (i : Nat) : pSq i ρ = (match ρ[i]? with | some (.d x) => sqOf x | some (.own xs) => .ok (false, xs) | _ => .bad) := id rfl
@[simp] theorem ev_Obj (i : Nat) : pObj i ρ = (match ρ[i]? with | some (.ins x) => .ok x | _ => .bad) := id rfl
@[simp] theorem ev_Scr (i : Nat) : pScr i ρ = (match ρ[i]? with | some (.scr x) => .ok x | _ => .bad) := id rfl
@[simp] theorem ev_Arg (i : Nat) : pArg i ρ = (match ρ[i]? with | some (.d x) => .ok (.d x) | some (.ins x) => .ok (.ins x) | some (.scr x) => .ok (.scr x) | _ => .bad) := id rfl
@[simp] theorem ev_ArgR (i : Nat) : pArgR i ρ = (match ρ[i]? with | some (.d x) => .ok (.d x) | some (.own x) => .ok (.d (.list x)) | some (.ins x) => .ok (.ins x) | some (.scr x) => .ok (.scr x) | some (.fre x) => .ok (.d x) | _ => .bad) := id rfl
@[simp] theorem ev_K (a : α) : pK a ρ = .ok a := id rfl
@[simp] theorem ev_1 (f : α → Option β) (pa : List SV → R α) : p1 f pa ρ = (pa ρ).bind fun a => R.of (f a) := id rfl
@[simp] theorem ev_2 (f : α → β → Option γ) (pa : List SV → R α) (pb : List SV → R β) : p2 f pa pb ρ = (pa ρ).bind fun a => (pb ρ).bind fun b => R.of (f a b) := id rfl
@[simp] theorem ev_sqOfT (x : List PyData) : sqOf (.tuple x) = .ok (true, x) := id rfl
@[simp] theorem ev_sqOfL (x : List PyData) : sqOf (.list x) = .ok (false, x) := id rfl
@[simp] theorem ev_SeqOf (pa : List SV → R PyData) : pSeqOf pa ρ = (pa ρ).bind sqOf := id rfl
@[simp] theorem ev_List (pa : List SV → R (List PyData)) : pList pa ρ = (pa ρ).bind fun xs => .ok (.list xs) := id rfl
@[simp] theorem ev_Nil : pNil ρ = .ok [] := id rfl
@[simp] theorem ev_Cons (pa : List SV → R SV) (pr : List SV → R (List SV)) : pCons pa pr ρ = (pa ρ).bind fun a => (pr ρ).bind fun r => .ok (a :: r) := id rfl
@[simp] theorem ev_D (pa : List SV → R PyData) : pD pa ρ = (pa ρ).bind fun a => .ok (.d a) := id rfl
@[simp] theorem ev_toB (b : Bool) : toB (.bool b) = some b := id rfl
@[simp] theorem ev_Test (pa : List SV → R PyData) : pTest pa ρ = (pa ρ).bind fun a => R.of (toB a) := id rfl
@[simp] theorem ev_NotT (pa : List SV → R Bool) : pNotT pa ρ = (pa ρ).bind fun b => .ok (!b) := id rfl
@[simp] theorem ev_AndT (pa pb : List SV → R Bool) : pAndT pa pb ρ = (pa ρ).bind fun a => if a = true then pb ρ else .ok false := id rfl
@[simp] theorem ev_OrT (pa pb : List SV → R Bool) : pOrT pa pb ρ = (pa ρ).bind fun a => if a = true then .ok true else pb ρ := id rfl
@[simp] theorem ev_NotV (pa : List SV → R PyData) : pNotV pa ρ = (pTest pa ρ).bind fun b => .ok (.bool (!b)) := id rfl
@[simp] theorem ev_AndV (pa pb : List SV → R PyData) : pAndV pa pb ρ = (pTest pa ρ).bind fun a => if a = true then pb ρ else .ok (.bool false) := id rfl
@[simp] theorem ev_OrV (pa pb : List SV → R PyData) : pOrV pa pb ρ = (pTest pa ρ).bind fun a => if a = true then .ok (.bool true) else pb ρ := id rfl
@[simp] theorem ev_If (pc : List SV → R Bool) (pa pb : List SV → R α) : pIf pc pa pb ρ = (pc ρ).bind fun c => if c = true then pa ρ else pb ρ := id rfl
@[simp] theorem ev_ds0 : dsOf [] = some [] := id rfl
@[simp] theorem ev_ds1 (x : PyData) (r : List SV) : dsOf (.d x :: r) = (dsOf r).map (x :: ·) := id rfl
@[simp] theorem ev_Tup (pa : List SV → R (List SV)) : pTup pa ρ = (pa ρ).bind fun as => (R.of (dsOf as)).bind fun ds => if lineOk ds.length = true then .ok (.tuple ds) else .bad := id rfl
@[simp] theorem ev_Lst (pa : List SV → R (List SV)) : pLst pa ρ = (pa ρ).bind fun as => (R.of (dsOf as)).bind fun ds => if lineOk ds.length = true then .ok ds else .bad := id rfl
@[simp] theorem ev_line (n : Nat) : (lineOk n = true) = (n ≤ 16777216) := by simp [lineOk]
@[simp] theorem ev_Call (pf : List SV → R PyData) (pa : List SV → R (List SV)) : pCall pf pa ρ = (pa ρ).bind pf := id rfl
@[simp] theorem ev_Meth (pf : List SV → R PyData) (po : List SV → R (List PyData)) (pa : List SV → R (List SV)) : pMeth pf po pa ρ = (po ρ).bind fun fs => (pa ρ).bind fun as => pf (.ins fs :: as) := id rfl
@[simp] theorem ev_Fld (j : Nat) (po : List SV → R (List PyData)) : pFld j po ρ = (po ρ).bind fun fs => R.of (fs[j]?) := id rfl
@[simp] theorem ev_Make (pf : List SV → R (List PyData)) (pa : List SV → R (List SV)) : pMake pf pa ρ = (pa ρ).bind fun as => (pf as).lfs := id rfl
@[simp] theorem ev_Part (pe : List SV → R PyData) : pPart pe ρ = (pe ρ).bind fun d => match d with | .int i => .ok (some i) | _ => .bad := id rfl
@[simp] theorem ev_NoPart : pNoPart ρ = .ok none := id rfl
@[simp] theorem ev_Sl (f : α → Option Int → Option Int → Option (List PyData)) (pv : List SV → R α) (pl ph : List SV → R (Option Int)) : pSl f pv pl ph ρ = (pv ρ).bind fun x => (pl ρ).bind fun lo => (ph ρ).bind fun hi => R.of (f x lo hi) := id rfl
@[simp] theorem ev_Chain (f f' : PyData → PyData → Option PyData) (pa pb pc : List SV → R PyData) : pChain f f' pa pb pc ρ = (pa ρ).bind fun a => (pb ρ).bind fun b => (R.of (f a b)).bind (chK f' pc ρ b) := id rfl
@[simp] theorem ev_chT (f' : PyData → PyData → Option PyData) (pc : List SV → R PyData) (b : PyData) : chK f' pc ρ b (.bool true) = (pc ρ).bind fun d => R.of (f' b d) := id rfl
@[simp] theorem ev_chF (f' : PyData → PyData → Option PyData) (pc : List SV → R PyData) (b : PyData) : chK f' pc ρ b (.bool false) = .ok (.bool false) := id rfl
@[simp] theorem ev_chB (f' : PyData → PyData → Option PyData) (pc : List SV → R PyData) (b : PyData) (c : Bool) : chK f' pc ρ b (.bool c) = if c = true then (pc ρ).bind fun d => R.of (f' b d) else .ok (.bool false) := by cases c <;> rfl
@[simp] theorem ev_addI (i j : Int) : fAdd (.int i) (.int j) = some (.int (i + j)) := id rfl
theorem ev_addL (i j : List PyData) : fAdd (.list i) (.list j) = if i.length + j.length ≤ 16777216 then some (.list (i ++ j)) else none := by simp [fAdd]
@[simp] theorem ev_sub (i j : Int) : fSub (.int i) (.int j) = some (.int (i - j)) := id rfl
theorem ev_mul (i j : Int) : fMul (.int i) (.int j) = if mulOk i j = true then some (.int (i * j)) else none := rfl
theorem mulOk_l {i j : Int} (h : i.natAbs < 2 ^ 64) : mulOk i j = true := by unfold mulOk; rw [decide_eq_true h]; rfl
theorem mulOk_r {i j : Int} (h : j.natAbs < 2 ^ 64) : mulOk i j = true := by unfold mulOk; rw [decide_eq_true h, Bool.or_true]
theorem ev_mul_l {i j : Int} (h : i.natAbs < 2 ^ 64) : fMul (.int i) (.int j) = some (.int (i * j)) := by rw [ev_mul, mulOk_l h]; rfl
theorem ev_mul_r {i j : Int} (h : j.natAbs < 2 ^ 64) : fMul (.int i) (.int j) = some (.int (i * j)) := by rw [ev_mul, mulOk_r h]; rfl
theorem ev_div {i j : Int} (h : j ≠ 0) (h2 : j.natAbs < 1073741824) : fDiv (.int i) (.int j) = some (.int (i.fdiv j)) := by
  show (if decide (j ≠ 0 ∧ j.natAbs < 1073741824) = true then _ else _) = _
  rw [if_pos (decide_eq_true ⟨h, h2⟩)]
theorem ev_mod {i j : Int} (h : j ≠ 0) : fMod (.int i) (.int j) = some (.int (i.fmod j)) := by
  show (if decide (j ≠ 0) = true then _ else _) = _
  rw [if_pos (decide_eq_true h)]
@[simp] theorem ev_neg (i : Int) : fNeg (.int i) = some (.int (-i)) := id rfl
@[simp] theorem ev_lt (i j : Int) : fLt (.int i) (.int j) = some (.bool (decide (i < j))) := id rfl
@[simp] theorem ev_le (i j : Int) : fLe (.int i) (.int j) = some (.bool (decide (i ≤ j))) := id rfl
@[simp] theorem ev_gt (i j : Int) : fGt (.int i) (.int j) = some (.bool (decide (j < i))) := id rfl
@[simp] theorem ev_ge (i j : Int) : fGe (.int i) (.int j) = some (.bool (decide (j ≤ i))) := id rfl
@[simp] theorem ev_isB (i j : Bool) : fIsB (.bool i) (.bool j) = some (.bool (decide (i = j))) := id rfl
@[simp] theorem ev_notB (i j : Bool) : fNotB (.bool i) (.bool j) = some (.bool (!decide (i = j))) := id rfl
@[simp] theorem ev_ix (b : Bool) (xs : List PyData) (k : Int) : fIx (b, xs) (.int k) = atI xs k := id rfl
@[simp] theorem ev_len (b : Bool) (xs : List PyData) : fLen (b, xs) = some (.int xs.length) := id rfl
@[simp] theorem ev_tuple (b : Bool) (xs : List PyData) : fTuple (b, xs) = some (.tuple xs) := id rfl
@[simp] theorem ev_list (b : Bool) (xs : List PyData) : fList (b, xs) = some xs := id rfl
@[simp] theorem ev_sum (ns : List Int) : fSum (false, ns.map .int) = some (.int ns.sum) := by unfold fSum; rw [if_neg (by simp), intsOf_map]; rfl
theorem ev_maxL {ns : List Int} (h : ns ≠ []) : fMaxL (false, ns.map .int) = some (.int (maxL ns)) := by
  unfold fMaxL
  rw [if_neg (by simp), intsOf_map]
  cases ns with
  | nil => exact absurd rfl h
  | cons n r => rfl
@[simp] theorem ev_max2 (i j : Int) : fMax2 (.int i) (.int j) = some (.int (max i j)) := by
  show some (PyData.int (if j > i then j else i)) = _
  congr 2
  split <;> omega
@[simp] theorem ev_min2 (i j : Int) : fMin2 (.int i) (.int j) = some (.int (min i j)) := by
  show some (PyData.int (if j < i then j else i)) = _
  congr 2
  split <;> omega
@[simp] theorem ev_int1 (i : Int) : fInt1 (.int i) = some (.int i) := id rfl
@[simp] theorem ev_abs (i : Int) : fAbs (.int i) = some (.int (if i < 0 then -i else i)) := id rfl
@[simp] theorem ev_bFl_ok (a : α) (k : α → Fl) : bFl (.ok a) ρ k = k a := id rfl
@[simp] theorem ev_bFl_exc (n : Nat) (x : PyData) (k : α → Fl) : bFl (.exc n x) ρ k = .xc n x ρ := id rfl
@[simp] theorem ev_Next : qNext ρ = .nx ρ := id rfl
def sqK (q : List SV → Fl) : Fl → Fl
  | .nx ρ => q ρ
  | o => o
@[simp] theorem ev_Seq (p q : List SV → Fl) : qSeq p q ρ = sqK q (p ρ) := by
  unfold qSeq
  cases p ρ <;> rfl
@[simp] theorem sqK_nx (q : List SV → Fl) : sqK q (.nx ρ) = q ρ := id rfl
@[simp] theorem sqK_rt (q : List SV → Fl) (d : PyData) : sqK q (.rt d) = .rt d := id rfl
@[simp] theorem sqK_bk (q : List SV → Fl) : sqK q (.bk ρ) = .bk ρ := id rfl
@[simp] theorem sqK_ct (q : List SV → Fl) : sqK q (.ct ρ) = .ct ρ := id rfl
@[simp] theorem sqK_xc (q : List SV → Fl) (n : Nat) (d : PyData) : sqK q (.xc n d ρ) = .xc n d ρ := id rfl
@[simp] theorem sqK_if (q : List SV → Fl) (c : Prop) [Decidable c] (x y : Fl) : sqK q (if c then x else y) = if c then sqK q x else sqK q y := by split <;> rfl
@[simp] theorem ev_IfS (pc : List SV → R Bool) (p q : List SV → Fl) : qIf pc p q ρ = bFl (pc ρ) ρ fun b => if b = true then p ρ else q ρ := id rfl
@[simp] theorem ev_Ret (pe : List SV → R PyData) : qRet pe ρ = bFl (pe ρ) ρ .rt := id rfl
@[simp] theorem ev_Drop (pe : List SV → R α) : qDrop pe ρ = bFl (pe ρ) ρ fun _ => .nx ρ := id rfl
@[simp] theorem ev_Set (i : Nat) (pe : List SV → R PyData) : qSet i pe ρ = bFl (pe ρ) ρ fun d => .nx (ρ.set i (.d d)) := id rfl
@[simp] theorem ev_SetN (i : Nat) (pe : List SV → R (List PyData)) : qSetN i pe ρ = bFl (pe ρ) ρ fun d => .nx (ρ.set i (.own d)) := id rfl
@[simp] theorem ev_SetO (i : Nat) (pe : List SV → R (List PyData)) : qSetO i pe ρ = bFl (pe ρ) ρ fun d => .nx (ρ.set i (.ins d)) := id rfl
@[simp] theorem ev_Frz (i : Nat) (q : List SV → Fl) : qFrz i q ρ = (match ρ[i]? with | some (.own xs) => q (ρ.set i (.d (.list xs))) | _ => .bad) := id rfl
@[simp] theorem ev_App (i : Nat) (pe : List SV → R PyData) : qApp i pe ρ = (match ρ[i]? with | some (.own xs) => bFl (pe ρ) ρ fun d => if decide (xs.length < 1000000) = true then .nx (ρ.set i (.own (xs ++ [d]))) else .bad | _ => .bad) := id rfl
@[simp] theorem ev_Store (i : Nat) (pe pj : List SV → R PyData) : qStore i pe pj ρ = (match ρ[i]? with
  | some (.own xs) => bFl (pe ρ) ρ fun d => bFl (pj ρ) ρ fun j => match j with
    | .int k => match ixN xs.length k with
      | some n => .nx (ρ.set i (.own (xs.set n d)))
      | none => .bad
    | _ => .bad
  | _ => .bad) := id rfl
@[simp] theorem ev_Brk : qBrk ρ = .bk ρ := id rfl
@[simp] theorem ev_Ofld (i j : Nat) (pe : List SV → R PyData) : qOfld i j pe ρ = (match ρ[i]? with | some (.oins a fs) => bFl (pe ρ) ρ fun d => if fs.length = j then .nx (ρ.set i (.oins a (fs ++ [d]))) else .bad | _ => .bad) := id rfl
@[simp] theorem ev_gs0 : gsFold [] [] ρ = some ρ := id rfl
@[simp] theorem ev_gs1 (i : Nat) (is : List Nat) (x : PyData) (xs : List PyData) : gsFold (i :: is) (x :: xs) ρ = gsFold is xs (ρ.set i (.d x)) := id rfl
@[simp] theorem ev_gName1 (i : Nat) (d : PyData) : gName1 i d ρ = some (ρ.set i (.d d)) := id rfl
@[simp] theorem ev_gNamesT (is : List Nat) (xs : List PyData) : gNames is (.tuple xs) ρ = gsFold is xs ρ := id rfl
@[simp] theorem ev_gNamesL (is : List Nat) (xs : List PyData) : gNames is (.list xs) ρ = gsFold is xs ρ := id rfl
@[simp] theorem ev_Tgt (g : PyData → List SV → Option (List SV)) (pe : List SV → R PyData) : qTgt g pe ρ = bFl (pe ρ) ρ fun d => match g d ρ with | some ρ' => .nx ρ' | none => .bad := id rfl
@[simp] theorem ev_For (pi : List SV → R (List PyData)) (g : PyData → List SV → Option (List SV)) (q : List SV → Fl) : qFor pi g q ρ = bFl (pi ρ) ρ fun xs => forGo g q xs ρ := id rfl
@[simp] theorem ev_iSq (pe : List SV → R PyData) : iSq pe ρ = (pe ρ).bind fun d => (sqOf d).bind fun x => .ok x.2 := id rfl
@[simp] theorem ev_iEn (pe : List SV → R PyData) : iEn pe ρ = (iSq pe ρ).bind fun xs => .ok (enumD 0 xs) := id rfl
theorem rgK1_ex : ∃ f : PyData → R (List PyData), ∀ (pe : List SV → R PyData) (ρ : List SV), iRg1 pe ρ = (pe ρ).bind f := ⟨fun d => match d with
  | .int j => if rngOk j = true then .ok (rngD 0 j.toNat) else .bad
  | _ => .bad, fun pe ρ => rfl⟩
theorem rgK2_ex : ∃ f : PyData → PyData → R (List PyData), ∀ (pa pb : List SV → R PyData) (ρ : List SV), iRg2 pa pb ρ = (pa ρ).bind fun a => (pb ρ).bind fun b => f a b := ⟨fun a b => match a, b with
  | .int i, .int j => if (rngOk i && rngOk j) = true then .ok (rngD i (j - i).toNat) else .bad
  | _, _ => .bad, fun pa pb ρ => rfl⟩
/-- what a range gives; hidden, so that nothing counts up to its bounds -/
noncomputable def rgK1 : PyData → R (List PyData) := Classical.choose rgK1_ex
noncomputable def rgK2 : PyData → PyData → R (List PyData) := Classical.choose rgK2_ex
@[simp] theorem ev_iRg1 (pe : List SV → R PyData) : iRg1 pe ρ = (pe ρ).bind rgK1 := Classical.choose_spec rgK1_ex pe ρ
@[simp] theorem ev_iRg2 (pa pb : List SV → R PyData) : iRg2 pa pb ρ = (pa ρ).bind fun a => (pb ρ).bind fun b => rgK2 a b := Classical.choose_spec rgK2_ex pa pb ρ
theorem rgK1_i {i : Int} (h : 0 ≤ i) (h2 : i ≤ 1000000) : rgK1 (.int i) = .ok (rngD 0 i.toNat) := by
  have e : rngOk i = true := decide_eq_true (by omega)
  have k : rgK1 (.int i) = iRg1 (pK (.int i)) [] := (ev_iRg1 (ρ := []) (pK (.int i))).symm
  rw [k]
  show (if rngOk i = true then R.ok (rngD 0 i.toNat) else .bad) = _
  rw [if_pos e]
theorem rgK1_n {n : Nat} (h2 : n ≤ 1000000) : rgK1 (.int (n : Int)) = .ok (rngD 0 n) := by
  rw [rgK1_i (by omega) (by omega)]
  rfl
theorem rgK2_i {i j : Int} (h : -1000000 ≤ i) (h2 : i ≤ 1000000) (h3 : -1000000 ≤ j) (h4 : j ≤ 1000000) : rgK2 (.int i) (.int j) = .ok (rngD i (j - i).toNat) := by
  have e1 : rngOk i = true := decide_eq_true (by omega)
  have e2 : rngOk j = true := decide_eq_true (by omega)
  have k : rgK2 (.int i) (.int j) = iRg2 (pK (.int i)) (pK (.int j)) [] := (ev_iRg2 (ρ := []) (pK (.int i)) (pK (.int j))).symm
  rw [k]
  show (if (rngOk i && rngOk j) = true then R.ok (rngD i (j - i).toNat) else .bad) = _
  rw [if_pos (by rw [e1, e2]; rfl)]
@[simp] theorem rgK1_2 : rgK1 (.int 2) = .ok (rngD 0 2) := rgK1_n (n := 2) (by decide)
@[simp] theorem rgK1_3 : rgK1 (.int 3) = .ok (rngD 0 3) := rgK1_n (n := 3) (by decide)
@[simp] theorem rgK1_18 : rgK1 (.int 18) = .ok (rngD 0 18) := rgK1_n (n := 18) (by decide)
@[simp] theorem rgK1_24 : rgK1 (.int 24) = .ok (rngD 0 24) := rgK1_n (n := 24) (by decide)
@[simp] theorem rgK1_25 : rgK1 (.int 25) = .ok (rngD 0 25) := rgK1_n (n := 25) (by decide)
@[simp] theorem rgK1_29 : rgK1 (.int 29) = .ok (rngD 0 29) := rgK1_n (n := 29) (by decide)
@[simp] theorem rgK1_40 : rgK1 (.int 40) = .ok (rngD 0 40) := rgK1_n (n := 40) (by decide)
@[simp] theorem ev_wipe0 : wipeR ρ [] = ρ := id rfl
@[simp] theorem ev_wipe1 (v : Nat) (vs : List Nat) : wipeR ρ (v :: vs) = (wipeR ρ vs).set v .un := id rfl
@[simp] theorem ev_Lc (pi : List SV → R (List PyData)) (g : PyData → List SV → Option (List SV)) (pt : List SV → R Bool) (pe : List SV → R PyData) (vs : List Nat) : pLc pi g pt pe vs ρ = (pi ρ).bind fun xs => if decide (xs.length < 1000000) = true then lcGo g pt pe (wipeR ρ vs) xs else .bad := id rfl
@[simp] theorem ev_Raise (n : Nat) (pe : List SV → R PyData) : qRaise n pe ρ = bFl (pe ρ) ρ fun x => .xc n x ρ := id rfl
def tryK (n i j : Nat) : Fl → Fl
  | .xc m x ρ' => if m = n ∧ i < ρ'.length then .nx (((ρ'.set i .un).set j (.d x)).set i .un) else .bad
  | o => o
@[simp] theorem ev_Try (n i j : Nat) (q : List SV → Fl) : qTry n i j q ρ = tryK n i j (q ρ) := by
  unfold qTry
  cases q ρ <;> rfl
@[simp] theorem tryK_nx (n i j : Nat) : tryK n i j (.nx ρ) = .nx ρ := id rfl
@[simp] theorem tryK_rt (n i j : Nat) (d : PyData) : tryK n i j (.rt d) = .rt d := id rfl
@[simp] theorem tryK_xc (n i j m : Nat) (x : PyData) : tryK n i j (.xc m x ρ) = if m = n ∧ i < ρ.length then .nx (((ρ.set i .un).set j (.d x)).set i .un) else .bad := id rfl
@[simp] theorem tryK_if (n i j : Nat) (c : Prop) [Decidable c] (x y : Fl) : tryK n i j (if c then x else y) = if c then tryK n i j x else tryK n i j y := by split <;> rfl
@[simp] theorem end_nx : endF (.nx ρ) = .ok .none := id rfl
@[simp] theorem end_rt (d : PyData) : endF (.rt d) = .ok d := id rfl
@[simp] theorem end_xc (n : Nat) (d : PyData) : endF (.xc n d ρ) = .exc n d := id rfl
@[simp] theorem end_if (c : Prop) [Decidable c] (x y : Fl) : endF (if c then x else y) = if c then endF x else endF y := by split <;> rfl
theorem run_eq {n N : Nat} {p : List SV → Fl} {as : List SV} (h : as.length = n) : runF n N p as = endF (p (as ++ List.replicate (N - n) .un)) := by unfold runF; rw [if_pos h]
theorem run1 {N : Nat} {p : List SV → Fl} {a : SV} : runF 1 N p [a] = endF (p (a :: List.replicate (N - 1) .un)) := rfl
theorem run2 {N : Nat} {p : List SV → Fl} {a b : SV} : runF 2 N p [a, b] = endF (p (a :: b :: List.replicate (N - 2) .un)) := rfl
theorem run3 {N : Nat} {p : List SV → Fl} {a b c : SV} : runF 3 N p [a, b, c] = endF (p (a :: b :: c :: List.replicate (N - 3) .un)) := rfl
theorem run4 {N : Nat} {p : List SV → Fl} {a b c d : SV} : runF 4 N p [a, b, c, d] = endF (p (a :: b :: c :: d :: List.replicate (N - 4) .un)) := rfl
@[simp] theorem bind_if (c : Prop) [Decidable c] (x y : R α) (f : α → R β) : (if c then x else y).bind f = if c then x.bind f else y.bind f := by split <;> rfl
@[simp] theorem bFl_if (c : Prop) [Decidable c] (x y : R α) (f : α → Fl) : bFl (if c then x else y) ρ f = if c then bFl x ρ f else bFl y ρ f := by split <;> rfl
@[simp] theorem of_if (c : Prop) [Decidable c] (x y : Option α) : R.of (if c then x else y) = if c then R.of x else R.of y := by split <;> rfl
@[simp] theorem ev_LcF (pi : List SV → R (List PyData)) (g : PyData → List SV → Option (List SV)) (pe : List SV → R PyData) (vs : List Nat) : pLcF pi g pe vs ρ = (pi ρ).bind fun xs => if decide (xs.length < 1000000) = true then (lcGo g (pK true) pe (wipeR ρ vs) xs).bind fun ys => .ok (.list ys) else .bad := id rfl
@[simp] theorem ev_SetF (i : Nat) (p : List SV → R PyData) : qSetF i p ρ = bFl (p ρ) ρ fun x => .nx (ρ.set i (.fre x)) := id rfl
@[simp] theorem ev_Lf (p : List SV → R PyData) : pLf p ρ = (p ρ).bind fun d => if lf d = true then .ok d else .bad := id rfl
@[simp] theorem ev_ListF (p : List SV → R (List PyData)) : pListF p ρ = (p ρ).bind fun xs => if lfAll xs = true then .ok (.list xs) else .bad := id rfl
@[simp] theorem ev_Lst2F (p q : List SV → R PyData) : pLst2F p q ρ = (p ρ).bind fun a => (q ρ).bind fun b => .ok (.list [a, b]) := id rfl
@[simp] theorem turn_eq (g : PyData → List SV → Option (List SV)) (q : List SV → Fl) (x : PyData) : fTurn g q x ρ = (match g x ρ with | none => .bad | some ρ1 => q ρ1) := id rfl
end
end Sm

set_option Elab.async false
set_option linter.all false
set_option maxRecDepth 100000
set_option maxHeartbeats 2000000
/-! Pl2: more plain tools: a for over a first part; texts that do not look at the first slot. -/
namespace Sm
open PySem L2
@[simp] theorem fNext_nx (k : List SV → Fl) (ρ : List SV) : fNext k (.nx ρ) = k ρ := rfl
@[simp] theorem fNext_ct (k : List SV → Fl) (ρ : List SV) : fNext k (.ct ρ) = k ρ := rfl
@[simp] theorem fNext_bk (k : List SV → Fl) (ρ : List SV) : fNext k (.bk ρ) = .nx ρ := rfl
@[simp] theorem fNext_rt (k : List SV → Fl) (d : PyData) : fNext k (.rt d) = .rt d := rfl
@[simp] theorem fNext_xc (k : List SV → Fl) (n : Nat) (d : PyData) (ρ : List SV) : fNext k (.xc n d ρ) = .xc n d ρ := rfl
@[simp] theorem fNext_if (k : List SV → Fl) (c : Prop) [Decidable c] (x y : Fl) : fNext k (if c then x else y) = if c then fNext k x else fNext k y := by split <;> rfl
section
variable {g : PyData → List SV → Option (List SV)} {q : List SV → Fl}
theorem for_pre (post : List PyData) : ∀ (xs : List PyData) (I : Nat → List SV → Prop) (ρ : List SV), I 0 ρ → (∀ i x ρ, xs[i]? = some x → I i ρ → ∃ ρ', fTurn g q x ρ = .nx ρ' ∧ I (i + 1) ρ') → ∃ ρ', forGo g q (xs ++ post) ρ = forGo g q post ρ' ∧ I xs.length ρ'
  | [], I, ρ, h0, _ => ⟨ρ, rfl, h0⟩
  | x :: r, I, ρ, h0, hs => by
    obtain ⟨ρ1, e1, h1⟩ := hs 0 x ρ rfl h0
    obtain ⟨ρ2, e2, h2⟩ := for_pre post r (fun i => I (i + 1)) ρ1 h1 fun i y ρ e h => hs (i + 1) y ρ (by simpa using e) h
    exact ⟨ρ2, by rw [List.cons_append, forGo_nx e1]; exact e2, h2⟩
/-- a for that tests: each turn goes on or ends with d -/
theorem for_test (T : PyData → Bool) (d : PyData) : ∀ (xs : List PyData) (I : Nat → List SV → Prop) (ρ : List SV), I 0 ρ → (∀ i x ρ, xs[i]? = some x → I i ρ → if T x = true then ∃ ρ', fTurn g q x ρ = .nx ρ' ∧ I (i + 1) ρ' else fTurn g q x ρ = .rt d) →
    if xs.all T = true then ∃ ρ', forGo g q xs ρ = .nx ρ' ∧ I xs.length ρ' else forGo g q xs ρ = .rt d
  | [], I, ρ, h0, _ => by rw [if_pos (by simp)]; exact ⟨ρ, rfl, h0⟩
  | x :: r, I, ρ, h0, hs => by
    have h := hs 0 x ρ rfl h0
    rw [List.all_cons]
    by_cases t : T x = true
    · rw [if_pos t] at h
      obtain ⟨ρ1, e1, h1⟩ := h
      have k := for_test T d r (fun i => I (i + 1)) ρ1 h1 fun i y ρ e h => hs (i + 1) y ρ (by simpa using e) h
      rw [t, Bool.true_and, forGo_nx e1]
      exact k
    · rw [if_neg t] at h
      rw [if_neg (by simp [t])]
      exact forGo_rt h
end
theorem enu_app : ∀ (k : Nat) (xs ys : List PyData), enumD k (xs ++ ys) = enumD k xs ++ enumD (k + xs.length) ys
  | k, [], ys => rfl
  | k, x :: r, ys => by
    show PyData.tuple [.int (k : Int), x] :: enumD (k + 1) (r ++ ys) = PyData.tuple [.int (k : Int), x] :: (enumD (k + 1) r ++ enumD (k + (r.length + 1)) ys)
    rw [enu_app (k + 1) r ys]
    have : k + 1 + r.length = k + (r.length + 1) := by omega
    rw [this]
/-- a list (false) or a tuple (true) -/
def sqD (t : Bool) (xs : List PyData) : PyData := if t = true then .tuple xs else .list xs
@[simp] theorem sqD_sq (t : Bool) (xs : List PyData) : sqOf (sqD t xs) = .ok (t, xs) := by cases t <;> rfl
@[simp] theorem sqD_isi (t : Bool) (xs : List PyData) : fIsi2 "tuple" "list" (sqD t xs) = some (.bool true) := by cases t <;> simp [sqD]
@[simp] theorem sqD_names (t : Bool) (is : List Nat) (xs : List PyData) (ρ : List SV) : gNames is (sqD t xs) ρ = gsFold is xs ρ := by cases t <;> rfl
/-! ### texts that do not look at slot 0 -/
def Bd {α : Type} (p : List SV → R α) : Prop := ∀ x y r, p (x :: r) = p (y :: r)
inductive FlR (a b : Addr) : Fl → Fl → Prop where
  | nx (fs : List PyData) (r : List SV) : FlR a b (.nx (.oins a fs :: r)) (.nx (.oins b fs :: r))
  | bk (fs : List PyData) (r : List SV) : FlR a b (.bk (.oins a fs :: r)) (.bk (.oins b fs :: r))
  | ct (fs : List PyData) (r : List SV) : FlR a b (.ct (.oins a fs :: r)) (.ct (.oins b fs :: r))
  | rt (d : PyData) : FlR a b (.rt d) (.rt d)
  | xc (n : Nat) (x : PyData) (fs : List PyData) (r : List SV) : FlR a b (.xc n x (.oins a fs :: r)) (.xc n x (.oins b fs :: r))
  | bad : FlR a b .bad .bad
def BdS (q : List SV → Fl) : Prop := ∀ a b fs r, FlR a b (q (.oins a fs :: r)) (q (.oins b fs :: r))
theorem endI_R {a b : Addr} {x y : Fl} (h : FlR a b x y) : endI a x = endI b y := by
  cases h with
  | nx fs r => simp [endI]
  | _ => rfl
theorem bd_V (i : Nat) : Bd (pV (i + 1)) := fun x y r => by simp
theorem bd_Raw (i : Nat) : Bd (pRaw (i + 1)) := fun x y r => by simp
theorem bd_Sq (i : Nat) : Bd (pSq (i + 1)) := fun x y r => by simp
theorem bd_Arg (i : Nat) : Bd (pArg (i + 1)) := fun x y r => by simp
theorem bd_K {α : Type} (a : α) : Bd (pK a) := fun x y r => rfl
theorem bd_1 {α β : Type} {f : α → Option β} {p : List SV → R α} (h : Bd p) : Bd (p1 f p) := fun x y r => by rw [ev_1, ev_1, h x y r]
theorem bd_2 {α β γ : Type} {f : α → β → Option γ} {p : List SV → R α} {q : List SV → R β} (h : Bd p) (k : Bd q) : Bd (p2 f p q) := fun x y r => by rw [ev_2, ev_2, h x y r, k x y r]
theorem bd_SeqOf {p : List SV → R PyData} (h : Bd p) : Bd (pSeqOf p) := fun x y r => by rw [ev_SeqOf, ev_SeqOf, h x y r]
theorem bd_Nil : Bd pNil := fun x y r => rfl
theorem bd_Cons {p : List SV → R SV} {q : List SV → R (List SV)} (h : Bd p) (k : Bd q) : Bd (pCons p q) := fun x y r => by rw [ev_Cons, ev_Cons, h x y r, k x y r]
theorem bd_D {p : List SV → R PyData} (h : Bd p) : Bd (pD p) := fun x y r => by rw [ev_D, ev_D, h x y r]
theorem bd_Test {p : List SV → R PyData} (h : Bd p) : Bd (pTest p) := bd_1 h
theorem bd_NotT {p : List SV → R Bool} (h : Bd p) : Bd (pNotT p) := fun x y r => by rw [ev_NotT, ev_NotT, h x y r]
theorem bd_OrT {p q : List SV → R Bool} (h : Bd p) (k : Bd q) : Bd (pOrT p q) := fun x y r => by rw [ev_OrT, ev_OrT, h x y r, k x y r]
theorem bd_AndT {p q : List SV → R Bool} (h : Bd p) (k : Bd q) : Bd (pAndT p q) := fun x y r => by rw [ev_AndT, ev_AndT, h x y r, k x y r]
theorem bd_Call {f : List SV → R PyData} {p : List SV → R (List SV)} (h : Bd p) : Bd (pCall f p) := fun x y r => by rw [ev_Call, ev_Call, h x y r]
theorem bd_Tup {p : List SV → R (List SV)} (h : Bd p) : Bd (pTup p) := fun x y r => by rw [ev_Tup, ev_Tup, h x y r]
theorem bd_Lst {p : List SV → R (List SV)} (h : Bd p) : Bd (pLst p) := fun x y r => by rw [ev_Lst, ev_Lst, h x y r]
theorem bd_List {p : List SV → R (List PyData)} (h : Bd p) : Bd (pList p) := fun x y r => by rw [ev_List, ev_List, h x y r]
theorem bd_iSq {p : List SV → R PyData} (h : Bd p) : Bd (iSq p) := fun x y r => by rw [ev_iSq, ev_iSq, h x y r]
theorem bd_iEn {p : List SV → R PyData} (h : Bd p) : Bd (iEn p) := fun x y r => by rw [ev_iEn, ev_iEn, bd_iSq h x y r]
theorem bFl_R {α : Type} {a b : Addr} {p : List SV → R α} {f f' : α → Fl} (h : Bd p) {fs : List PyData} {r : List SV} (k : ∀ x, FlR a b (f x) (f' x)) : FlR a b (bFl (p (.oins a fs :: r)) (.oins a fs :: r) f) (bFl (p (.oins b fs :: r)) (.oins b fs :: r) f') := by
  rw [h (.oins b fs) (.oins a fs) r]
  cases p (.oins a fs :: r) with
  | ok x => exact k x
  | exc n x => exact .xc n x fs r
  | bad => exact .bad
theorem bs_Next : BdS qNext := fun a b fs r => .nx fs r
theorem bs_Seq {p q : List SV → Fl} (h : BdS p) (k : BdS q) : BdS (qSeq p q) := fun a b fs r => by
  rw [ev_Seq, ev_Seq]
  have e := h a b fs r
  revert e
  generalize p (.oins a fs :: r) = x
  generalize p (.oins b fs :: r) = y
  intro e
  cases e with
  | nx fs' r' => exact k a b fs' r'
  | bk fs r => exact .bk fs r
  | ct fs r => exact .ct fs r
  | rt d => exact .rt d
  | xc n x fs r => exact .xc n x fs r
  | bad => exact .bad
theorem bs_If {pc : List SV → R Bool} {p q : List SV → Fl} (hc : Bd pc) (h : BdS p) (k : BdS q) : BdS (qIf pc p q) := fun a b fs r => bFl_R hc fun x => by
  cases x with
  | true => exact h a b fs r
  | false => exact k a b fs r
theorem bs_Raise {n : Nat} {p : List SV → R PyData} (h : Bd p) : BdS (qRaise n p) := fun a b fs r => bFl_R h fun x => .xc n x fs r
theorem bs_Ret {p : List SV → R PyData} (h : Bd p) : BdS (qRet p) := fun a b fs r => bFl_R h fun x => .rt x
theorem bs_Set {i : Nat} {p : List SV → R PyData} (h : Bd p) : BdS (qSet (i + 1) p) := fun a b fs r => bFl_R h fun x => .nx fs _
theorem bs_SetN {i : Nat} {p : List SV → R (List PyData)} (h : Bd p) : BdS (qSetN (i + 1) p) := fun a b fs r => bFl_R h fun x => .nx fs _
theorem bs_App {i : Nat} {p : List SV → R PyData} (h : Bd p) : BdS (qApp (i + 1) p) := fun a b fs r => by
  rw [ev_App, ev_App]
  rw [List.getElem?_cons_succ, List.getElem?_cons_succ]
  split
  · next xs e =>
    refine bFl_R h fun x => ?_
    split
    · exact .nx fs _
    · exact .bad
  · exact .bad
theorem bs_Ofld {j : Nat} {p : List SV → R PyData} (h : Bd p) : BdS (qOfld 0 j p) := fun a b fs r => by
  rw [ev_Ofld, ev_Ofld]
  refine bFl_R h fun x => ?_
  split
  · exact .nx _ _
  · exact .bad
def BdG (g : PyData → List SV → Option (List SV)) : Prop := ∀ d x r, (g d (x :: r) = none ∧ ∀ y, g d (y :: r) = none) ∨ ∃ r', ∀ y, g d (y :: r) = some (y :: r')
theorem bg_1 {i : Nat} : BdG (gName1 (i + 1)) := fun d x r => .inr ⟨r.set i (.d d), fun y => rfl⟩
theorem bg_fold : ∀ (is : List Nat) (xs : List PyData) (r : List SV), (∀ y, gsFold (is.map (· + 1)) xs (y :: r) = none) ∨ ∃ r', ∀ y, gsFold (is.map (· + 1)) xs (y :: r) = some (y :: r')
  | [], [], r => .inr ⟨r, fun y => rfl⟩
  | [], x :: xs, r => .inl fun y => rfl
  | i :: is, [], r => .inl fun y => rfl
  | i :: is, x :: xs, r => by
    rcases bg_fold is xs (r.set i (.d x)) with h | ⟨r', h⟩
    · exact .inl fun y => h y
    · exact .inr ⟨r', fun y => h y⟩
theorem bg_s {is : List Nat} : BdG (gNames (is.map (· + 1))) := fun d x r => by
  cases d with
  | list xs =>
    rcases bg_fold is xs r with h | ⟨r', h⟩
    · exact .inl ⟨h x, h⟩
    · exact .inr ⟨r', h⟩
  | tuple xs =>
    rcases bg_fold is xs r with h | ⟨r', h⟩
    · exact .inl ⟨h x, h⟩
    · exact .inr ⟨r', h⟩
  | _ => exact .inl ⟨rfl, fun y => rfl⟩
theorem bs_for {g : PyData → List SV → Option (List SV)} {q : List SV → Fl} (hg : BdG g) (hq : BdS q) (a b : Addr) : ∀ (xs : List PyData) (fs : List PyData) (r : List SV), FlR a b (forGo g q xs (.oins a fs :: r)) (forGo g q xs (.oins b fs :: r))
  | [], fs, r => .nx fs r
  | x :: xs, fs, r => by
    rw [forGo_cons, forGo_cons]
    have ta : ∀ c, fTurn g q x (.oins c fs :: r) = (match g x (.oins c fs :: r) with | none => .bad | some ρ1 => q ρ1) := fun c => rfl
    rw [ta, ta]
    rcases hg x (.oins a fs) r with ⟨_, h⟩ | ⟨r', h⟩
    · rw [h, h]
      exact .bad
    · rw [h, h]
      dsimp only
      have e := hq a b fs r'
      revert e
      generalize q (.oins a fs :: r') = y
      generalize q (.oins b fs :: r') = z
      intro e
      cases e with
      | nx fs' r' => exact bs_for hg hq a b xs fs' r'
      | ct fs' r' => exact bs_for hg hq a b xs fs' r'
      | bk fs r => exact .nx fs r
      | rt d => exact .rt d
      | xc n x fs r => exact .xc n x fs r
      | bad => exact .bad
theorem bs_For {p : List SV → R (List PyData)} {g : PyData → List SV → Option (List SV)} {q : List SV → Fl} (hp : Bd p) (hg : BdG g) (hq : BdS q) : BdS (qFor p g q) := fun a b fs r => bFl_R hp fun xs => bs_for hg hq a b xs fs r
theorem init_same {q : List SV → Fl} (h : BdS q) (n N : Nat) (a : Addr) (as : List SV) : runI n N q a as = runI n N q 0 as := by
  unfold runI
  split
  · have e := h a 0 [] (as ++ List.replicate (N - n) SV.un)
    exact endI_R e
  · rfl
end Sm

set_option Elab.async false
set_option linter.all false
set_option maxRecDepth 100000
set_option maxHeartbeats 2000000
namespace K70
open PySem L2 Sm
abbrev Lf := Int × List Int
def lifeD (l : Lf) : PyData := .tuple [.int l.1, .tuple (l.2.map .int)]
def livT (L : List Lf) : PyData := .tuple (L.map lifeD)
def livL (L : List Lf) : PyData := .list (L.map lifeD)
def blk (L : List Lf) : SV := .ins [livT L, .int L.length]
def nD (i : Nat) : SV := .d (.int (i : Int))
/-- a life's length at a moment, -1 where there's none -/
def la (l : Lf) (m : Int) : Int := if m < l.1 ∨ l.1 + l.2.length ≤ m then -1 else (l.2[(m - l.1).toNat]?).getD 0
def fm (lb lc : Lf) : Int := if min (lb.1 + lb.2.length) (lc.1 + lc.2.length) ≤ max lb.1 lc.1 then -1 else max lb.1 lc.1
theorem whole_i (i : Int) : p_is_whole [.d (.int i)] = .ok (.bool true) := by
  rw [p_is_whole, run1, q_is_whole]
  simp
theorem whole_b (i : Bool) : p_is_whole [.d (.bool i)] = .ok (.bool false) := by
  rw [p_is_whole, run1, q_is_whole]
  simp
theorem whole_n : p_is_whole [.d .none] = .ok (.bool false) := by
  rw [p_is_whole, run1, q_is_whole]
  simp
theorem ending_ok (l : Lf) : p_ending [.d (lifeD l)] = .ok (.int (l.1 + l.2.length)) := by
  rw [p_ending, run1, q_ending]
  simp [lifeD, atI_0, atI_1]
theorem first_ok {L : List Lf} {b c : Nat} {lb lc : Lf} (hb : L[b]? = some lb) (hc : L[c]? = some lc) :
    p_first_meeting [.d (livT L), nD b, nD c] = .ok (.int (if b = c then -1 else fm lb lc)) := by
  rw [p_first_meeting, run3, q_first_meeting]
  simp [List.replicate, livT, nD, atI_map, atI_n, hb, hc, ending_ok, lifeD, atI_0, fm]
  have e1 : p_ending [SV.d (.tuple [.int lb.1, .tuple (lb.2.map .int)])] = .ok (.int (lb.1 + lb.2.length)) := ending_ok lb
  have e2 : p_ending [SV.d (.tuple [.int lc.1, .tuple (lc.2.map .int)])] = .ok (.int (lc.1 + lc.2.length)) := ending_ok lc
  simp [e1, e2]
  by_cases h : b = c
  · simp [h]
  · by_cases k : min (lb.1 + (lb.2.length : Int)) (lc.1 + lc.2.length) ≤ max lb.1 lc.1
    · simp only [h, k, if_true, if_false]; simp
    · simp only [h, k, if_true, if_false]; simp
      intro e; omega
theorem check_ok {L : List Lf} {nm : Str} {b : Int} (h1 : 0 ≤ b) (h2 : b < L.length) : p_m_check_block [blk L, .d (.str nm), .d (.int b)] = .ok .none := by
  rw [p_m_check_block, run3, q_m_check_block]
  simp [blk, whole_i, h1, h2]
theorem check_bad {L : List Lf} {nm : Str} {b : Int} (h : ¬ (0 ≤ b ∧ b < L.length)) : p_m_check_block [blk L, .d (.str nm), .d (.int b)] = .exc 0 (.str nm) := by
  rw [p_m_check_block, run3, q_m_check_block]
  simp [blk, whole_i]
  by_cases h1 : 0 ≤ b
  · have : (L.length : Int) ≤ b := by omega
    simp [h1, this]
  · simp [h1]
theorem check_bool {L : List Lf} {nm : Str} {b : Bool} : p_m_check_block [blk L, .d (.str nm), .d (.bool b)] = .exc 0 (.str nm) := by
  rw [p_m_check_block, run3, q_m_check_block]
  simp [blk, whole_b]
theorem meeting_ok {L : List Lf} {b c : Nat} {lb lc : Lf} (hb : L[b]? = some lb) (hc : L[c]? = some lc) :
    p_m_meeting [blk L, nD b, nD c] = .ok (.int (if b = c then -1 else fm lb lc)) := by
  rw [p_m_meeting, run3, q_m_meeting]
  have kb := get_lt hb
  have kc := get_lt hc
  have c1 := check_ok (L := L) (nm := "b") (b := (b : Int)) (by omega) (by omega)
  have c2 := check_ok (L := L) (nm := "c") (b := (c : Int)) (by omega) (by omega)
  have f := first_ok hb hc
  unfold nD at f ⊢
  unfold blk at c1 c2 ⊢
  simp [c1, c2, f]
theorem meeting_b {L : List Lf} {x y : PyData} (h : p_m_check_block [blk L, .d (.str "b"), .d x] = .exc 0 (.str "b")) : p_m_meeting [blk L, .d x, .d y] = .exc 0 (.str "b") := by
  rw [p_m_meeting, run3, q_m_meeting]
  unfold blk at h ⊢
  simp [h]
theorem meeting_c {L : List Lf} {x y : PyData} (h0 : p_m_check_block [blk L, .d (.str "b"), .d x] = .ok .none) (h : p_m_check_block [blk L, .d (.str "c"), .d y] = .exc 0 (.str "c")) : p_m_meeting [blk L, .d x, .d y] = .exc 0 (.str "c") := by
  rw [p_m_meeting, run3, q_m_meeting]
  unfold blk at h h0 ⊢
  simp [h, h0]
theorem la_in {l : Lf} {m : Int} (h1 : l.1 ≤ m) (h2 : m < l.1 + l.2.length) : l.2[(m - l.1).toNat]? = some (la l m) := by
  unfold la
  rw [if_neg (by omega)]
  have : (m - l.1).toNat < l.2.length := by omega
  rw [List.getElem?_eq_getElem this]
  rfl
theorem la_out {l : Lf} {m : Int} (h : ¬ (l.1 ≤ m ∧ m < l.1 + l.2.length)) : la l m = -1 := by
  unfold la
  rw [if_pos (by omega)]
theorem atI_la {l : Lf} {m : Int} (h1 : l.1 ≤ m) (h2 : m < l.1 + l.2.length) : atI (l.2.map PyData.int) (m - l.1) = some (.int (la l m)) := by
  rw [atI_map, atI_at (by omega), la_in h1 h2]
  rfl
theorem then_ok {L : List Lf} {b : Nat} {l : Lf} {m : Int} (hb : L[b]? = some l) (h1 : l.1 ≤ m) (h2 : m < l.1 + l.2.length) :
    p_m_length_then [blk L, nD b, .d (.int m)] = .ok (.int (la l m)) := by
  rw [p_m_length_then, run3, q_m_length_then]
  have kb := get_lt hb
  have c1 := check_ok (L := L) (nm := "b") (b := (b : Int)) (by omega) (by omega)
  unfold nD
  unfold blk livT at c1 ⊢
  simp [List.replicate, c1, atI_n, hb, lifeD, whole_i, h1, h2, atI_la h1 h2]
theorem then_m {L : List Lf} {b : Nat} {l : Lf} {m : Int} (hb : L[b]? = some l) (h : ¬ (l.1 ≤ m ∧ m < l.1 + l.2.length)) :
    p_m_length_then [blk L, nD b, .d (.int m)] = .exc 0 (.str "moment") := by
  rw [p_m_length_then, run3, q_m_length_then]
  have kb := get_lt hb
  have c1 := check_ok (L := L) (nm := "b") (b := (b : Int)) (by omega) (by omega)
  unfold nD
  unfold blk livT at c1 ⊢
  simp [List.replicate, c1, atI_n, hb, lifeD, whole_i]
  by_cases h1 : l.1 ≤ m
  · have : l.1 + (l.2.length : Int) ≤ m := by omega
    simp [h1, this]
    intro e; omega
  · simp [h1]
theorem then_mb {L : List Lf} {b : Nat} {l : Lf} {m : Bool} (hb : L[b]? = some l) :
    p_m_length_then [blk L, nD b, .d (.bool m)] = .exc 0 (.str "moment") := by
  rw [p_m_length_then, run3, q_m_length_then]
  have kb := get_lt hb
  have c1 := check_ok (L := L) (nm := "b") (b := (b : Int)) (by omega) (by omega)
  unfold nD
  unfold blk livT at c1 ⊢
  simp [List.replicate, c1, atI_n, hb, lifeD, whole_b]
theorem then_b {L : List Lf} {x y : PyData} (h : p_m_check_block [blk L, .d (.str "b"), .d x] = .exc 0 (.str "b")) :
    p_m_length_then [blk L, .d x, .d y] = .exc 0 (.str "b") := by
  rw [p_m_length_then, run3, q_m_length_then]
  unfold blk at h ⊢
  simp [List.replicate, h]
theorem fm_pos {lb lc : Lf} (h : fm lb lc ≠ -1) : fm lb lc = max lb.1 lc.1 ∧ lb.1 ≤ fm lb lc ∧ fm lb lc < lb.1 + lb.2.length ∧ lc.1 ≤ fm lb lc ∧ fm lb lc < lc.1 + lc.2.length := by
  unfold fm at h ⊢
  split
  · next k => rw [if_pos k] at h; exact absurd rfl h
  · omega
theorem mlen_ok {L : List Lf} {b c : Nat} {lb lc : Lf} (hb : L[b]? = some lb) (hc : L[c]? = some lc) (hn : b ≠ c) (h : fm lb lc ≠ -1) :
    p_meeting_length [.d (livT L), nD b, nD c] = .ok (.int (la lb (fm lb lc))) := by
  rw [p_meeting_length, run3, q_meeting_length]
  have f := first_ok hb hc
  rw [if_neg hn] at f
  obtain ⟨_, h1, h2, _⟩ := fm_pos h
  unfold nD at f ⊢
  unfold livT at f ⊢
  simp [List.replicate, f, atI_n, hb, lifeD, atI_la h1 h2]
theorem lenp_ok {L : List Lf} {b c : Nat} {lb lc : Lf} (hb : L[b]? = some lb) (hc : L[c]? = some lc) (hn : b ≠ c) (h : fm lb lc ≠ -1) :
    p_m_len_pair [blk L, nD b, nD c] = .ok (.int (la lb (fm lb lc))) := by
  rw [p_m_len_pair, run3, q_m_len_pair]
  have f := meeting_ok hb hc
  rw [if_neg hn] at f
  have g := mlen_ok hb hc hn h
  unfold nD at f g ⊢
  unfold blk at f ⊢
  simp [f, g, h]
theorem lenp_no {L : List Lf} {b c : Nat} {lb lc : Lf} (hb : L[b]? = some lb) (hc : L[c]? = some lc) (h : b = c ∨ fm lb lc = -1) :
    p_m_len_pair [blk L, nD b, nD c] = .exc 1 (.int 0) := by
  rw [p_m_len_pair, run3, q_m_len_pair]
  have f := meeting_ok hb hc
  rw [show (if b = c then (-1 : Int) else fm lb lc) = -1 by rcases h with h | h <;> simp [h]] at f
  unfold nD at f ⊢
  unfold blk at f ⊢
  simp [f]
theorem lenp_x {L : List Lf} {x y z : PyData} (h : p_m_meeting [blk L, .d x, .d y] = .exc 0 z) : p_m_len_pair [blk L, .d x, .d y] = .exc 0 z := by
  rw [p_m_len_pair, run3, q_m_len_pair]
  unfold blk at h ⊢
  simp [h]
theorem apart_ok (s l o t : Int) : p_apart [.d (.int s), .d (.int l), .d (.int o), .d (.int t)] = .ok (.bool (decide (s + l ≤ o ∨ o + t ≤ s))) := by
  rw [p_apart, run4, q_apart]
  simp
  by_cases h : s + l ≤ o <;> simp [h]
theorem llen_ok (l : Lf) (m : Int) : p_u_law_length [.d (lifeD l), .d (.int m)] = .ok (.int (la l m)) := by
  rw [p_u_law_length, run2, q_u_law_length]
  simp [lifeD, atI_0, atI_1]
  by_cases h1 : m < l.1
  · simp [h1, la_out (l := l) (m := m) (by omega)]
  · simp [h1]
    by_cases h2 : l.1 + l.2.length ≤ m
    · simp [h2, la_out (l := l) (m := m) (by omega)]
    · simp [h2, atI_la (l := l) (m := m) (by omega) (by omega)]
end K70

set_option Elab.async false
set_option linter.all false
set_option maxRecDepth 100000
set_option maxHeartbeats 2000000
namespace K70
open PySem L2 Sm
theorem init_ind (a : Addr) (as : List SV) : runI 2 6 q_m_uinit a as = p_m_uinit as := by
  refine init_same ?_ 2 6 a as
  unfold q_m_uinit
  refine bs_Seq (bs_If (bd_OrT (bd_NotT (bd_Test (bd_1 (bd_Raw 0)))) (bd_Test (bd_2 (bd_1 (bd_Sq 0)) (bd_K _)))) (bs_Raise (bd_K _)) bs_Next) ?_
  refine bs_Seq (bs_SetN (bd_Lst bd_Nil)) ?_
  refine bs_Seq (bs_Set (bd_K _)) ?_
  refine bs_Seq (bs_For (bd_iEn (bd_V 0)) (bg_s (is := [3, 4])) ?_) (bs_Seq (bs_Ofld (bd_1 (bd_Sq 1))) (bs_Ofld (bd_1 (bd_Sq 1))))
  refine bs_Seq (bs_If (bd_OrT (bd_NotT (bd_Test (bd_Call (bd_Cons (bd_Arg 4) bd_Nil)))) (bd_Test (bd_2 (bd_2 (bd_Sq 4) (bd_K _)) (bd_V 2)))) (bs_Raise (bd_V 3)) bs_Next) ?_
  refine bs_Seq (bs_Set (bd_2 (bd_Sq 4) (bd_K _))) ?_
  refine bs_Seq (bs_If (bd_Test (bd_2 (bd_Raw 3) (bd_K _))) (bs_Raise (bd_V 3)) bs_Next) ?_
  exact bs_App (bd_Tup (bd_Cons (bd_D (bd_2 (bd_Sq 4) (bd_K _))) (bd_Cons (bd_D (bd_1 (bd_SeqOf (bd_2 (bd_Sq 4) (bd_K _))))) bd_Nil)))
structure GL (l : Lf) : Prop where
  f0 : 0 ≤ l.1
  ne : l.2 ≠ []
  nn : ∀ n ∈ l.2, 0 ≤ n
  dec : l.2.Pairwise (fun x y => y ≤ x)
  few : l.2.length < 1000
/-- a life as it is handed -/
def itm (u : Bool) (l : Lf) : PyData := sqD u [.int l.1, sqD u (l.2.map .int)]
theorem itm_t (l : Lf) : itm true l = lifeD l := rfl
theorem dec_at {ls : List Int} (h : ls.Pairwise (fun x y => y ≤ x)) {i j : Nat} {x y : Int} (hij : i ≤ j) (hx : ls[i]? = some x) (hy : ls[j]? = some y) : y ≤ x := by
  by_cases e : i = j
  · subst e; rw [hx] at hy; cases hy; exact Int.le_refl x
  · have h1 := get_lt hx
    have h2 := get_lt hy
    have := List.pairwise_iff_getElem.mp h i j h1 h2 (by omega)
    rw [List.getElem?_eq_getElem h1] at hx
    rw [List.getElem?_eq_getElem h2] at hy
    cases hx; cases hy
    exact this
theorem life_ok {u : Bool} {l : Lf} (h : GL l) : p_is_life [.d (itm u l)] = .ok (.bool true) := by
  rw [p_is_life, run1, q_is_life]
  have nel : l.2.length ≠ 0 := fun e => h.ne (List.length_eq_zero_iff.mp e)
  have f0 : ¬ l.1 < 0 := by have := h.f0; omega
  unfold itm
  simp [List.replicate, whole_i, f0, nel]
  obtain ⟨ρ', e, s3, s4, rfl⟩ := for_all (g := gNames [3, 4]) (q := (qSeq (qIf (pOrT (pNotT (pTest (pCall p_is_whole (pCons (pArg 4) pNil)))) (pTest (p2 fLt (pV 4) (pK (.int 0))))) (qRet (pK (.bool false))) qNext)
  (qIf (pAndT (pTest (p2 fGt (pV 3) (pK (.int 0)))) (pTest (p2 fGt (pV 4) (p2 fIx (pSq 2) (p2 fSub (pV 3) (pK (.int 1))))))) (qRet (pK (.bool false))) qNext))) (enumD 0 (l.2.map .int))
    (fun _ ρ => ∃ s3 s4, ρ = [.d (sqD u [.int l.1, sqD u (l.2.map .int)]), .d (.int l.1), .d (sqD u (l.2.map .int)), s3, s4]) _ ⟨_, _, rfl⟩ (by
      rintro i x ρ hx ⟨s3, s4, rfl⟩
      obtain ⟨y, h1, rfl⟩ := enu_get hx
      obtain ⟨n, h2, rfl⟩ := map_get h1
      have n0 : ¬ n < 0 := by have := h.nn n (mem_at h2); omega
      simp [whole_i, n0]
      by_cases hi : 0 < i
      · have hi' : i ≠ 0 := by omega
        obtain ⟨m, h3⟩ := get_of (xs := l.2) (i := i - 1) (by have := get_lt h2; omega)
        have le := dec_at h.dec (by omega) h3 h2
        have e1 : atI (l.2.map PyData.int) ((i : Int) - 1) = some (.int m) := by
          have : ((i : Int) - 1) = ((i - 1 : Nat) : Int) := by omega
          rw [this, atI_n]
          simp [h3]
        have nl : ¬ m < n := by omega
        simp [hi, e1, nl]
      · simp [hi])
  rw [e]
  simp
end K70

set_option Elab.async false
set_option linter.all false
set_option maxRecDepth 100000
set_option maxHeartbeats 2000000
namespace K70
open PySem L2 Sm
def notL (x : PyData) : Prop := p_is_life [.d x] = .ok (.bool false)
theorem nl_int (i : Int) : notL (.int i) := by
  unfold notL
  rw [p_is_life, run1, q_is_life]
  simp
theorem nl_three (a b c : PyData) : notL (.tuple [a, b, c]) := by
  unfold notL
  rw [p_is_life, run1, q_is_life]
  simp
theorem nl_empty (f : Int) : notL (.tuple [.int f, .tuple []]) := by
  unfold notL
  rw [p_is_life, run1, q_is_life]
  simp [List.replicate, whole_i]
theorem nl_noseq (f i : Int) : notL (.tuple [.int f, .int i]) := by
  unfold notL
  rw [p_is_life, run1, q_is_life]
  simp [List.replicate, whole_i]
theorem nl_bool (f : Bool) (x : PyData) : notL (.tuple [.bool f, x]) := by
  unfold notL
  rw [p_is_life, run1, q_is_life]
  simp [List.replicate, whole_b]
theorem nl_neg {f : Int} (x : PyData) (h : f < 0) : notL (.tuple [.int f, x]) := by
  unfold notL
  rw [p_is_life, run1, q_is_life]
  simp [List.replicate, whole_i, h]
theorem nl_len (f : Int) : notL (.tuple [.int f, .tuple [.int (-1)]]) := by
  unfold notL
  rw [p_is_life, run1, q_is_life]
  simp [List.replicate, whole_i, enumD, forGo_cons]
theorem nl_up (f : Int) : notL (.tuple [.int f, .tuple [.int 1, .int 2]]) := by
  unfold notL
  rw [p_is_life, run1, q_is_life]
  simp [List.replicate, whole_i, enumD, forGo_cons, atI_0]
theorem nl_up2 (f : Int) : notL (.tuple [.int f, .tuple [.int 2, .int 1, .int 2]]) := by
  unfold notL
  rw [p_is_life, run1, q_is_life]
  simp [List.replicate, whole_i, enumD, forGo_cons, atI_0, atI_1]
theorem nl_tr (f : Int) : notL (.tuple [.int f, .tuple [.int 1, .bool true]]) := by
  unfold notL
  rw [p_is_life, run1, q_is_life]
  simp [List.replicate, whole_i, whole_b, enumD, forGo_cons, atI_0, atI_1]
/-! ### what is made of lives -/
structure GLs (L : List Lf) : Prop where
  all : ∀ l ∈ L, GL l
  up : L.Pairwise (fun x y => x.1 ≤ y.1)
  few : L.length ≤ 24
def erl (L : List Lf) : Nat → Int
  | 0 => 0
  | i + 1 => ((L[i]?).map (·.1)).getD 0
theorem up_at {L : List Lf} (h : L.Pairwise (fun x y => x.1 ≤ y.1)) {i j : Nat} {x y : Lf} (hij : i ≤ j) (hx : L[i]? = some x) (hy : L[j]? = some y) : x.1 ≤ y.1 := by
  by_cases e : i = j
  · subst e; rw [hx] at hy; cases hy; exact Int.le_refl _
  · have h1 := get_lt hx
    have h2 := get_lt hy
    have := List.pairwise_iff_getElem.mp h i j h1 h2 (by omega)
    rw [List.getElem?_eq_getElem h1] at hx
    rw [List.getElem?_eq_getElem h2] at hy
    cases hx; cases hy
    exact this
theorem erl_le {L : List Lf} (h : GLs L) {i : Nat} {l : Lf} (hl : L[i]? = some l) : erl L i ≤ l.1 := by
  cases i with
  | zero => exact (h.all l (mem_at hl)).f0
  | succ i =>
    obtain ⟨x, hx⟩ := get_of (xs := L) (i := i) (by have := get_lt hl; omega)
    show ((L[i]?).map (·.1)).getD 0 ≤ l.1
    rw [hx]
    exact up_at h.up (by omega) hx hl
theorem itm_ix0 (u : Bool) (l : Lf) : sqOf (itm u l) = .ok (u, [.int l.1, sqD u (l.2.map .int)]) := by simp [itm]
def gI : PyData → List SV → Option (List SV) := gNames [4, 5]
def qI : List SV → Fl := (qSeq (qIf (pOrT (pNotT (pTest (pCall p_is_life (pCons (pArg 5) pNil)))) (pTest (p2 fLt (p2 fIx (pSq 5) (pK (.int 0))) (pV 3)))) (qRaise 1 (pV 4)) qNext)
  (qSeq (qSet 3 (p2 fIx (pSq 5) (pK (.int 0))))
  (qSeq (qIf (pTest (p2 fEq (pRaw 4) (pK (.int 24)))) (qRaise 1 (pV 4)) qNext)
  (qApp 2 (pTup (pCons (pD (p2 fIx (pSq 5) (pK (.int 0)))) (pCons (pD (p1 fTuple (pSeqOf (p2 fIx (pSq 5) (pK (.int 1)))))) pNil)))))))
def stI (x : PyData) (L : List Lf) (i : Nat) (s4 s5 : SV) : List SV := [.oins 0 [], .d x, .own ((L.take i).map lifeD), .d (.int (erl L i)), s4, s5]
theorem turn_ok {L : List Lf} (h : GLs L) {u : Bool} {x : PyData} {i : Nat} {l : Lf} {s4 s5 : SV} (hl : L[i]? = some l) :
    fTurn gI qI (.tuple [.int (i : Int), itm u l]) (stI x L i s4 s5) = .nx (stI x L (i + 1) (.d (.int i)) (.d (itm u l))) := by
  have li := get_lt hl
  have few := h.few
  have e := erl_le h hl
  have g := life_ok (u := u) (h.all l (mem_at hl))
  have ne : ¬ l.1 < erl L i := by omega
  have n24 : ¬ ((i : Int) = 24) := by omega
  have tk : (L.take (i + 1)).map lifeD = (L.take i).map lifeD ++ [lifeD l] := by rw [take_step hl, List.map_append]; rfl
  have er : erl L (i + 1) = l.1 := by show ((L[i]?).map (·.1)).getD 0 = l.1; rw [hl]; rfl
  have sm : (min i L.length) < 1000000 := by omega
  unfold stI
  rw [tk, er]
  unfold qI gI
  simp [g, itm_ix0, atI_0, atI_1, ne, n24, sm, lifeD]
theorem init_pre {L : List Lf} (h : GLs L) (u t : Bool) (rest : List PyData) : ∃ s4 s5, forGo gI qI (enumD 0 (L.map (itm u) ++ rest)) (stI (sqD t (L.map (itm u) ++ rest)) L 0 .un .un) = forGo gI qI (enumD L.length rest) (stI (sqD t (L.map (itm u) ++ rest)) L L.length s4 s5) := by
  rw [enu_app]
  obtain ⟨ρ', e, s4, s5, rfl⟩ := for_pre (g := gI) (q := qI) (enumD (0 + (L.map (itm u)).length) rest) (enumD 0 (L.map (itm u))) (fun i ρ => ∃ s4 s5, ρ = stI (sqD t (L.map (itm u) ++ rest)) L i s4 s5) (stI (sqD t (L.map (itm u) ++ rest)) L 0 .un .un) ⟨_, _, rfl⟩ (by
    rintro i x ρ hx ⟨s4, s5, rfl⟩
    obtain ⟨y, h1, rfl⟩ := enu_get hx
    obtain ⟨l, h2, rfl⟩ := map_get h1
    rw [Nat.zero_add]
    exact ⟨_, turn_ok h h2, _, _, rfl⟩)
  refine ⟨s4, s5, ?_⟩
  rw [e]
  simp [enu_len]
theorem init_eq (t : Bool) (xs : List PyData) (h : xs ≠ []) : p_m_uinit [.d (sqD t xs)] = endI 0 (sqK (qSeq (qOfld 0 0 (p1 fTuple (pSq 2))) (qOfld 0 1 (p1 fLen (pSq 2)))) (forGo gI qI (enumD 0 xs) (stI (sqD t xs) [] 0 .un .un))) := by
  show endI 0 (q_m_uinit [.oins 0 [], .d (sqD t xs), .un, .un, .un, .un]) = _
  have hl : xs.length ≠ 0 := fun e => h (List.length_eq_zero_iff.mp e)
  unfold q_m_uinit
  simp [hl]
  rfl
theorem init_no (i : Int) : p_m_uinit [.d (.int i)] = .exc 1 (.int 0) := by
  show endI 0 (q_m_uinit [.oins 0 [], .d (.int i), .un, .un, .un, .un]) = _
  unfold q_m_uinit
  simp [endI]
theorem init_nil : p_m_uinit [.d (.list [])] = .exc 1 (.int 0) := by
  show endI 0 (q_m_uinit [.oins 0 [], .d (.list []), .un, .un, .un, .un]) = _
  unfold q_m_uinit
  simp [endI]
theorem init_good {L : List Lf} (h : GLs L) (hn : L ≠ []) (u t : Bool) : p_m_uinit [.d (sqD t (L.map (itm u)))] = .ok [livT L, .int L.length] := by
  rw [init_eq _ _ (by simpa using hn)]
  obtain ⟨s4, s5, e⟩ := init_pre h u t []
  rw [List.append_nil] at e
  have e0 : stI (sqD t (L.map (itm u))) [] 0 .un .un = stI (sqD t (L.map (itm u))) L 0 .un .un := rfl
  rw [e0, e]
  unfold stI livT
  simp [enumD, forGo_nil, endI, nmB]
theorem init_bad {L : List Lf} (h : GLs L) (u t : Bool) {x : PyData} {rest : List PyData} (hx : notL x ∨ ∃ l, x = itm u l ∧ GL l ∧ (l.1 < erl L L.length ∨ L.length = 24)) : p_m_uinit [.d (sqD t (L.map (itm u) ++ x :: rest))] = .exc 1 (.int L.length) := by
  rw [init_eq _ _ (by simp)]
  obtain ⟨s4, s5, e⟩ := init_pre h u t (x :: rest)
  have e0 : stI (sqD t (L.map (itm u) ++ x :: rest)) [] 0 .un .un = stI (sqD t (L.map (itm u) ++ x :: rest)) L 0 .un .un := rfl
  rw [e0, e]
  unfold enumD
  rw [forGo_cons]
  rcases hx with hx | ⟨l, rfl, hl, hx⟩
  · unfold notL at hx
    unfold qI gI stI
    simp [hx, endI]
  · have g := life_ok (u := u) hl
    by_cases hx1 : l.1 < erl L L.length
    · unfold qI gI stI
      simp [g, itm_ix0, atI_0, hx1, endI]
    · have hx := hx.resolve_left hx1
      rw [hx] at hx1
      unfold qI gI stI
      simp [g, itm_ix0, atI_0, hx, hx1, endI]
end K70

set_option Elab.async false
set_option linter.all false
set_option maxRecDepth 100000
set_option maxHeartbeats 2000000
namespace K70
open PySem L2 Sm
def alive (l : Lf) (m : Int) : Bool := decide (l.1 ≤ m ∧ m < l.1 + l.2.length)
theorem la_nn {l : Lf} (h : GL l) {m : Int} (a : alive l m = true) : 0 ≤ la l m := by
  have a := of_decide_eq_true a
  exact h.nn _ (mem_at (la_in a.1 a.2))
theorem la_ge {l : Lf} (h : GL l) {m : Int} : (0 ≤ la l m) ↔ alive l m = true := by
  refine ⟨fun e => ?_, la_nn h⟩
  by_cases a : l.1 ≤ m ∧ m < l.1 + l.2.length
  · exact decide_eq_true a
  · rw [la_out a] at e; omega
theorem la_no {l : Lf} {m : Int} (a : alive l m = false) : la l m = -1 := la_out (of_decide_eq_false a)
theorem la_dec {l : Lf} (h : GL l) {m m' : Int} (hm : m ≤ m') (h1 : l.1 ≤ m) (h2 : m' < l.1 + l.2.length) : la l m' ≤ la l m :=
  dec_at h.dec (by omega) (la_in h1 (by omega)) (la_in (by omega) h2)
def thn (L : List Lf) (m : Int) : List Int := (L.filter (fun l => alive l m)).map (fun l => la l m)
theorem thn_len (L : List Lf) (m : Int) : (thn L m).length ≤ L.length := by
  unfold thn
  rw [List.length_map]
  exact List.length_filter_le _ _
theorem thn_step {L : List Lf} {m : Int} {i : Nat} {l : Lf} (h : L[i]? = some l) : thn (L.take (i + 1)) m = thn (L.take i) m ++ (if alive l m = true then [la l m] else []) := by
  unfold thn
  rw [take_step h, List.filter_append, List.map_append]
  by_cases a : alive l m = true <;> simp [a]
theorem then_all {L : List Lf} (h : L.length ≤ 24) (m : Int) : p_lengths_then [.d (livT L), .d (.int m)] = .ok (.list ((thn L m).map .int)) := by
  rw [p_lengths_then, run2, q_lengths_then]
  simp [List.replicate]
  rw [show sqOf (livT L) = .ok (true, L.map lifeD) from rfl]
  simp
  obtain ⟨ρ', e, s3, s4, rfl⟩ := for_all (g := gNames [3, 4]) (q := (qIf (pTest (pChain fLe fLt (pV 3) (pV 1) (p2 fAdd (pV 3) (p1 fLen (pSq 4))))) (qApp 2 (p2 fIx (pSq 4) (p2 fSub (pV 1) (pV 3)))) qNext)) (L.map lifeD)
    (fun i ρ => ∃ s3 s4, ρ = [.d (livT L), .d (.int m), .own ((thn (L.take i) m).map .int), s3, s4]) [.d (livT L), .d (.int m), .own [], .un, .un] ⟨_, _, rfl⟩ (by
      rintro i x ρ hx ⟨s3, s4, rfl⟩
      obtain ⟨l, h1, rfl⟩ := map_get hx
      rw [thn_step h1]
      have lt := thn_len (L.take i) m
      have : (thn (L.take i) m).length < 1000000 := by have := List.length_take_le i L; have := List.length_take_le' i L; omega
      by_cases a : alive l m = true
      · have a' := of_decide_eq_true a
        simp [lifeD, a'.1, a'.2, atI_la a'.1 a'.2, a, this]
      · have a0 : alive l m = false := by simpa using a
        have a' := of_decide_eq_false a0
        by_cases b : l.1 ≤ m
        · have b2 : ¬ m < l.1 + l.2.length := by omega
          simp [lifeD, b, b2, a]
        · simp [lifeD, b, a])
  rw [e]
  simp
def tot (L : List Lf) (m : Int) : Int := (thn L m).sum
def prD (b : Int × Int) : PyData := .tuple [.int b.1, .int b.2]
def hst (f : Int → Int) (b : Int × Int) (m : Int) : Int × Int := if b.2 < f m then (m, f m) else b
def hv (f : Int → Int) (ms : List Int) : Int × Int := ms.foldl (hst f) (0, -1)
theorem hv_app (f : Int → Int) (ms : List Int) (m : Int) : hv f (ms ++ [m]) = hst f (hv f ms) m := by
  unfold hv
  rw [List.foldl_append]
  rfl
theorem hv_lo (f : Int → Int) (ms : List Int) : -1 ≤ (hv f ms).2 := by
  have gen : ∀ (ms : List Int) (b : Int × Int), b.2 ≤ (ms.foldl (hst f) b).2 := by
    intro ms
    induction ms with
    | nil => exact fun b => Int.le_refl _
    | cons m r ih =>
      intro b
      have h := ih (hst f b m)
      have : b.2 ≤ (hst f b m).2 := by unfold hst; split <;> simp <;> omega
      exact Int.le_trans this h
  exact gen ms (0, -1)
theorem heavy_ok {L : List Lf} (h : L.length ≤ 24) : p_m_heaviest [blk L] = .ok (prD (hv (tot L) (L.map (·.1)))) := by
  rw [p_m_heaviest, run1, q_m_heaviest]
  unfold blk
  simp [List.replicate]
  rw [show sqOf (livT L) = .ok (true, L.map lifeD) from rfl]
  simp
  obtain ⟨ρ', e, s2, s3, s4, rfl⟩ := for_all (g := gNames [2, 3]) (q := (qSeq (qSet 4 (p1 fSum (pSeqOf (pCall p_lengths_then (pCons (pD (pFld 0 (pObj 0))) (pCons (pArg 2) pNil))))))
  (qIf (pTest (p2 fGt (pV 4) (p2 fIx (pSq 1) (pK (.int 1))))) (qSet 1 (pTup (pCons (pArg 2) (pCons (pArg 4) pNil)))) qNext))) (L.map lifeD)
    (fun i ρ => ∃ s2 s3 s4, ρ = [.ins [livT L, .int L.length], .d (prD (hv (tot L) ((L.take i).map (·.1)))), s2, s3, s4]) [.ins [livT L, .int L.length], .d (.tuple [.int 0, .int (-1)]), .un, .un, .un] ⟨_, _, _, rfl⟩ (by
      rintro i x ρ hx ⟨s2, s3, s4, rfl⟩
      obtain ⟨l, h1, rfl⟩ := map_get hx
      have e1 := then_all h l.1
      have e2 : (L.take (i + 1)).map (·.1) = (L.take i).map (·.1) ++ [l.1] := by rw [take_step h1, List.map_append]; rfl
      rw [e2, hv_app]
      generalize hv (tot L) ((L.take i).map (·.1)) = b
      have e3 : (thn L l.1).sum = tot L l.1 := rfl
      simp [lifeD, e1, prD, atI_1, e3]
      unfold hst
      by_cases c : b.2 < tot L l.1
      · simp [c]
      · simp [c])
  rw [e]
  simp
/-! ### the heaviest moment of all -/
def there (L : List Lf) (m : Int) : Bool := L.any (fun l => alive l m)
def totF (L : List Lf) (m : Int) : Int := if there L m = true then tot L m else -1
def mts (k : Nat) : List Int := (List.range k).map fun (i : Nat) => (i : Int)
theorem mts_step (k : Nat) : mts (k + 1) = mts k ++ [(k : Int)] := by
  unfold mts
  rw [List.range_succ, List.map_append]
  rfl
theorem there_step {L : List Lf} {m : Int} {i : Nat} {l : Lf} (h : L[i]? = some l) : there (L.take (i + 1)) m = (there (L.take i) m || alive l m) := by
  unfold there
  rw [take_step h, List.any_append]
  simp
theorem lheavy_ok {L : List Lf} (hL : ∀ l ∈ L, GL l) : p_u_law_heaviest [.d (livL L)] = .ok (prD (hv (totF L) (mts 40))) := by
  rw [p_u_law_heaviest, run1, q_u_law_heaviest]
  simp [List.replicate]
  obtain ⟨ρ', e, s2, s3, s4, s5, rfl⟩ := for_all (g := gName1 2) (q := (qSeq (qSet 3 (pK (.int 0)))
  (qSeq (qSet 4 (pK (.bool false)))
  (qSeq (qFor (iSq (pV 0)) (gName1 5) (qIf (pTest (p2 fGe (pCall p_u_law_length (pCons (pArg 5) (pCons (pArg 2) pNil))) (pK (.int 0)))) (qSeq (qSet 4 (pK (.bool true)))
  (qSet 3 (p2 fAdd (pV 3) (pCall p_u_law_length (pCons (pArg 5) (pCons (pArg 2) pNil)))))) qNext))
  (qIf (pAndT (pTest (pV 4)) (pTest (p2 fGt (pV 3) (p2 fIx (pSq 1) (pK (.int 1)))))) (qSet 1 (pTup (pCons (pArg 2) (pCons (pArg 3) pNil)))) qNext))))) (rngD 0 40)
    (fun i ρ => ∃ s2 s3 s4 s5, ρ = [.d (livL L), .d (prD (hv (totF L) (mts i))), s2, s3, s4, s5]) [.d (livL L), .d (.tuple [.int 0, .int (-1)]), .un, .un, .un, .un] ⟨_, _, _, _, rfl⟩ (by
      rintro i x ρ hx ⟨s2, s3, s4, s5, rfl⟩
      obtain ⟨_, rfl⟩ := rng_get hx
      rw [mts_step, hv_app]
      have lo := hv_lo (totF L) (mts i)
      revert lo
      generalize hv (totF L) (mts i) = b
      intro lo
      rw [Int.zero_add]
      simp
      rw [show sqOf (livL L) = .ok (false, L.map lifeD) from rfl]
      simp
      obtain ⟨ρ', e, s5, rfl⟩ := for_all (g := gName1 5) (q := (qIf (pTest (p2 fGe (pCall p_u_law_length (pCons (pArg 5) (pCons (pArg 2) pNil))) (pK (.int 0)))) (qSeq (qSet 4 (pK (.bool true)))
  (qSet 3 (p2 fAdd (pV 3) (pCall p_u_law_length (pCons (pArg 5) (pCons (pArg 2) pNil)))))) qNext)) (L.map lifeD)
        (fun j ρ => ∃ s5, ρ = [.d (livL L), .d (prD b), .d (.int i), .d (.int (tot (L.take j) i)), .d (.bool (there (L.take j) i)), s5]) [.d (livL L), .d (prD b), .d (.int i), .d (.int 0), .d (.bool false), s5] ⟨_, rfl⟩ (by
          rintro j x ρ hx ⟨s5, rfl⟩
          obtain ⟨l, h1, rfl⟩ := map_get hx
          have g := hL l (mem_at h1)
          have e1 := llen_ok l i
          rw [there_step h1]
          unfold tot
          rw [thn_step h1]
          by_cases a : alive l i = true
          · have := la_nn g a
            simp [e1, this, a]
          · have := la_no (by simpa using a)
            simp [e1, this, a])
      rw [List.length_map, List.take_length] at e
      rw [e]
      simp [prD, atI_1]
      unfold hst totF
      by_cases t : there L i = true
      · simp [t]
        by_cases c : b.2 < tot L i
        · simp [c]
        · simp [c]
      · have nb : ¬ b.2 < -1 := by omega
        simp [t, nb])
  rw [rng_len] at e
  rw [e]
  simp

theorem hst_lo (f : Int → Int) (b : Int × Int) (m : Int) : b.2 ≤ (hst f b m).2 ∧ f m ≤ (hst f b m).2 := by
  unfold hst
  split
  · simp; omega
  · omega
theorem hst_no {f : Int → Int} {b : Int × Int} {m : Int} (h : f m ≤ b.2) : hst f b m = b := by
  unfold hst
  rw [if_neg (by omega)]
theorem hst_same (f : Int → Int) (b : Int × Int) (k : Int) : ∀ (ms : List Int), (∀ m ∈ ms, m = k) → ms ≠ [] → ms.foldl (hst f) b = hst f b k
  | [], _, h => absurd rfl h
  | m :: r, h, _ => by
    have := h m List.mem_cons_self
    subst this
    show r.foldl (hst f) (hst f b m) = _
    cases r with
    | nil => rfl
    | cons x r =>
      rw [hst_same f (hst f b m) m (x :: r) (fun y hy => h y (List.mem_cons_of_mem _ hy)) (by simp)]
      exact hst_no (hst_lo f b m).2
theorem filt_lt : ∀ (ms : List Int) (k : Int), ms.Pairwise (fun x y => x ≤ y) → ms.filter (fun x => decide (x < k + 1)) = ms.filter (fun x => decide (x < k)) ++ ms.filter (fun x => decide (x = k))
  | [], k, _ => rfl
  | x :: r, k, h => by
    have h1 := List.pairwise_cons.mp h
    have ih := filt_lt r k h1.2
    by_cases a : x < k
    · have b : x < k + 1 := by omega
      have c : ¬ x = k := by omega
      simp [a, b, c, ih]
    · by_cases c : x = k
      · subst c
        have z : r.filter (fun y => decide (y < x)) = [] := by
          rw [List.filter_eq_nil_iff]
          intro y hy
          have := h1.1 y hy
          simp
          omega
        rw [z] at ih
        simp at ih
        have b : x < x + 1 := by omega
        simp [b, ih, z]
      · have z1 : r.filter (fun y => decide (y < k)) = [] := by
          rw [List.filter_eq_nil_iff]
          intro y hy
          have := h1.1 y hy
          simp
          omega
        rw [z1] at ih
        have b : ¬ x < k + 1 := by omega
        simp at ih
        simp [a, b, c, ih, z1]
theorem hv_split {f : Int → Int} {fs : List Int} (hs : fs.Pairwise (fun x y => x ≤ y)) (h0 : ∀ x ∈ fs, 0 ≤ x) (hf : ∀ k : Nat, (∀ x ∈ fs, x ≠ (k : Int)) → f k ≤ -1 ∨ ∃ j : Nat, j + 1 = k ∧ f k ≤ f j) :
    ∀ k : Nat, hv f (mts k) = hv f (fs.filter (fun x => decide (x < (k : Int)))) ∧ ∀ j : Nat, j < k → f j ≤ (hv f (mts k)).2
  | 0 => by
    refine ⟨?_, fun j h => by omega⟩
    have : fs.filter (fun x => decide (x < ((0 : Nat) : Int))) = [] := by
      rw [List.filter_eq_nil_iff]
      intro y hy
      have := h0 y hy
      simp
      omega
    rw [this]
    rfl
  | k + 1 => by
    obtain ⟨ih, up⟩ := hv_split hs h0 hf k
    rw [mts_step, hv_app]
    have cast : ((k + 1 : Nat) : Int) = (k : Int) + 1 := by omega
    rw [cast, filt_lt fs k hs]
    have lo := hv_lo f (mts k)
    refine ⟨?_, fun j hj => ?_⟩
    · unfold hv at ih ⊢
      rw [List.foldl_append, ← ih]
      by_cases e : fs.filter (fun x => decide (x = (k : Int))) = []
      · rw [e]
        have nk : ∀ x ∈ fs, x ≠ (k : Int) := by
          intro x hx
          have := List.filter_eq_nil_iff.mp e x hx
          simpa using this
        show hst f (hv f (mts k)) k = hv f (mts k)
        rcases hf k nk with h | ⟨j, hj, h⟩
        · exact hst_no (by omega)
        · exact hst_no (Int.le_trans h (up j (by omega)))
      · rw [hst_same f _ k _ (fun m hm => by simpa using (List.mem_filter.mp hm).2) e]
    · by_cases e : j = k
      · subst e; exact (hst_lo f _ _).2
      · exact Int.le_trans (up j (by omega)) (hst_lo f _ _).1
theorem hv_congr {f g : Int → Int} : ∀ (ms : List Int), (∀ m ∈ ms, f m = g m) → hv f ms = hv g ms := by
  intro ms h
  unfold hv
  generalize ((0 : Int), (-1 : Int)) = b
  induction ms generalizing b with
  | nil => rfl
  | cons m r ih =>
    show r.foldl (hst f) (hst f b m) = r.foldl (hst g) (hst g b m)
    have : hst f b m = hst g b m := by unfold hst; rw [h m List.mem_cons_self]
    rw [this]
    exact ih (fun x hx => h x (List.mem_cons_of_mem _ hx)) _
theorem tot_cons (l : Lf) (L : List Lf) (m : Int) : tot (l :: L) m = (if alive l m = true then la l m else 0) + tot L m := by
  unfold tot thn
  by_cases a : alive l m = true
  · simp [a]
  · simp [a]
theorem tot_le {m m' : Int} (hm : m ≤ m') : ∀ (L : List Lf), (∀ l ∈ L, GL l) → (∀ l ∈ L, alive l m' = true → l.1 ≤ m) → tot L m' ≤ tot L m
  | [], _, _ => Int.le_refl _
  | l :: L, h1, h2 => by
    rw [tot_cons, tot_cons]
    have ih := tot_le hm L (fun x hx => h1 x (List.mem_cons_of_mem _ hx)) (fun x hx => h2 x (List.mem_cons_of_mem _ hx))
    have g := h1 l List.mem_cons_self
    by_cases a : alive l m' = true
    · have a1 := of_decide_eq_true a
      have a2 := h2 l List.mem_cons_self a
      have a3 : alive l m = true := decide_eq_true (by omega)
      have := la_dec g hm a2 a1.2
      simp [a, a3]
      omega
    · simp [a]
      by_cases a3 : alive l m = true
      · have := la_nn g a3
        simp [a3]; omega
      · simp [a3]; omega
theorem heavy_same {L : List Lf} (h : GLs L) (hi : ∀ l ∈ L, l.1 < 40) : hv (totF L) (mts 40) = hv (tot L) (L.map (·.1)) := by
  have hs : (L.map (·.1)).Pairwise (fun x y => x ≤ y) := by
    rw [List.pairwise_map]
    exact h.up
  have h0 : ∀ x ∈ L.map (·.1), 0 ≤ x := by
    intro x hx
    obtain ⟨l, hl, rfl⟩ := List.mem_map.mp hx
    exact (h.all l hl).f0
  rw [(hv_split (f := totF L) hs h0 (fun k nk => by
    have nf : ∀ l ∈ L, l.1 ≠ (k : Int) := fun l hl => nk _ (List.mem_map_of_mem hl)
    by_cases t : there L k = true
    · obtain ⟨l, hl, a⟩ := List.any_eq_true.mp t
      have a := of_decide_eq_true a
      have := nf l hl
      have := (h.all l hl).f0
      refine .inr ⟨k - 1, by omega, ?_⟩
      have t2 : there L ((k - 1 : Nat) : Int) = true := List.any_eq_true.mpr ⟨l, hl, decide_eq_true (by omega)⟩
      unfold totF
      rw [if_pos t, if_pos t2]
      refine tot_le (by omega) L h.all fun x hx ax => ?_
      have ax := of_decide_eq_true ax
      have := nf x hx
      omega
    · unfold totF
      rw [if_neg t]
      exact .inl (Int.le_refl _)) 40).1]
  have e : (L.map (·.1)).filter (fun x => decide (x < ((40 : Nat) : Int))) = L.map (·.1) := by
    rw [List.filter_eq_self]
    intro x hx
    obtain ⟨l, hl, rfl⟩ := List.mem_map.mp hx
    exact decide_eq_true (hi l hl)
  rw [e]
  refine hv_congr _ fun m hm => ?_
  obtain ⟨l, hl, rfl⟩ := List.mem_map.mp hm
  unfold totF
  have t : there L l.1 = true := List.any_eq_true.mpr ⟨l, hl, decide_eq_true ⟨Int.le_refl _, by have := List.length_pos_iff.mpr (h.all l hl).ne; omega⟩⟩
  rw [if_pos t]
end K70

set_option Elab.async false
set_option linter.all false
set_option maxRecDepth 100000
set_option maxHeartbeats 2000000
namespace K70
open PySem L2 Sm
/-! ### the pairs -/
def pairB (L : List Lf) (b c : Nat) : Bool := match L[b]?, L[c]? with
  | some lb, some lc => decide (0 ≤ fm lb lc)
  | _, _ => false
def row (L : List Lf) (b k : Nat) : List (Nat × Nat) := ((List.range k).filter (fun c => decide (b < c) && pairB L b c)).map (fun c => (b, c))
def prs (L : List Lf) (n : Nat) : List (Nat × Nat) := (List.range n).flatMap (fun b => row L b L.length)
def pD2 (p : Nat × Nat) : PyData := .tuple [.int p.1, .int p.2]
theorem row_step (L : List Lf) (b k : Nat) : row L b (k + 1) = row L b k ++ (if (decide (b < k) && pairB L b k) = true then [(b, k)] else []) := by
  unfold row
  rw [List.range_succ, List.filter_append, List.map_append]
  by_cases h : (decide (b < k) && pairB L b k) = true
  · rw [if_pos h, List.filter_cons, if_pos h]; rfl
  · rw [if_neg h, List.filter_cons, if_neg h]; rfl
theorem row_low (L : List Lf) (b : Nat) : ∀ k, k ≤ b + 1 → row L b k = []
  | 0, _ => rfl
  | k + 1, h => by
    rw [row_step, row_low L b k (by omega), if_neg (by have : ¬ b < k := by omega
                                                       simp [this])]
    rfl
theorem row_len (L : List Lf) (b k : Nat) : (row L b k).length ≤ k := by
  unfold row
  rw [List.length_map]
  have := List.length_filter_le (fun c => decide (b < c) && pairB L b c) (List.range k)
  rwa [List.length_range] at this
theorem prs_step (L : List Lf) (n : Nat) : prs L (n + 1) = prs L n ++ row L n L.length := by
  unfold prs
  rw [List.range_succ, List.flatMap_append]
  simp
theorem prs_len (L : List Lf) : ∀ n, (prs L n).length ≤ n * L.length
  | 0 => by simp [prs]
  | n + 1 => by
    rw [prs_step, List.length_append, Nat.succ_mul]
    have := prs_len L n
    have := row_len L n L.length
    omega
theorem pair_room {L : List Lf} (h : L.length ≤ 24) {b k : Nat} (hb : b ≤ 24) (hk : k ≤ 24) : (prs L b).length + (row L b k).length < 1000000 := by
  have h1 := prs_len L b
  have h2 := row_len L b k
  have h3 : b * L.length ≤ 24 * 24 := Nat.mul_le_mul hb h
  omega
theorem pairB_eq {L : List Lf} {b c : Nat} {lb lc : Lf} (hb : L[b]? = some lb) (hc : L[c]? = some lc) : pairB L b c = decide (0 ≤ fm lb lc) := by
  unfold pairB
  rw [hb, hc]
theorem mpairs_ok {L : List Lf} (h : L.length ≤ 24) : p_meeting_pairs [.d (livT L)] = .ok (.tuple ((prs L L.length).map pD2)) := by
  rw [p_meeting_pairs, run1, q_meeting_pairs]
  simp [List.replicate]
  rw [show sqOf (livT L) = .ok (true, L.map lifeD) from rfl]
  simp [rgK1_n (show L.length ≤ 1000000 by omega)]
  obtain ⟨ρ', e, s2, s3, rfl⟩ := for_all (g := gName1 2) (q := (qFor (iRg2 (p2 fAdd (pV 2) (pK (.int 1))) (p1 fLen (pSq 0))) (gName1 3) (qIf (pTest (p2 fGe (pCall p_first_meeting (pCons (pArg 0) (pCons (pArg 2) (pCons (pArg 3) pNil)))) (pK (.int 0)))) (qApp 1 (pTup (pCons (pArg 2) (pCons (pArg 3) pNil)))) qNext))) (rngD 0 L.length)
    (fun i ρ => ∃ s2 s3, ρ = [.d (livT L), .own ((prs L i).map pD2), s2, s3]) [.d (livT L), .own [], .un, .un] ⟨_, _, rfl⟩ (by
      rintro b x ρ hx ⟨s2, s3, rfl⟩
      obtain ⟨hb, rfl⟩ := rng_get hx
      obtain ⟨lb, eb⟩ := get_of hb
      rw [Int.zero_add]
      simp
      rw [show sqOf (livT L) = .ok (true, L.map lifeD) from rfl]
      simp [rgK2_i (show -1000000 ≤ (b : Int) + 1 by omega) (by omega) (show -1000000 ≤ (L.length : Int) by omega) (by omega)]
      have cnt : ((L.length : Int) - ((b : Int) + 1)).toNat = L.length - (b + 1) := by omega
      rw [cnt]
      obtain ⟨ρ', e, s3, rfl⟩ := for_all (g := gName1 3) (q := (qIf (pTest (p2 fGe (pCall p_first_meeting (pCons (pArg 0) (pCons (pArg 2) (pCons (pArg 3) pNil)))) (pK (.int 0)))) (qApp 1 (pTup (pCons (pArg 2) (pCons (pArg 3) pNil)))) qNext)) (rngD ((b : Int) + 1) (L.length - (b + 1)))
        (fun j ρ => ∃ s3, ρ = [.d (livT L), .own ((prs L b ++ row L b (b + 1 + j)).map pD2), .d (.int b), s3]) [.d (livT L), .own ((prs L b).map pD2), .d (.int b), s3] ⟨s3, by rw [row_low L b _ (Nat.le_refl _)]; simp⟩ (by
          rintro j x ρ hx ⟨s3, rfl⟩
          obtain ⟨hj, rfl⟩ := rng_get hx
          have hc : b + 1 + j < L.length := by omega
          obtain ⟨lc, ec⟩ := get_of hc
          have cs : (b : Int) + 1 + (j : Int) = ((b + 1 + j : Nat) : Int) := by omega
          rw [cs]
          have f := first_ok eb ec
          rw [if_neg (by omega)] at f
          unfold nD at f
          have rm := pair_room h (b := b) (k := b + 1 + j) (by omega) (by omega)
          rw [show b + 1 + (j + 1) = (b + 1 + j) + 1 by omega, row_step, pairB_eq eb ec]
          have lt : b < b + 1 + j := by omega
          generalize b + 1 + j = c at *
          by_cases p : 0 ≤ fm lb lc
          · simp [f, p, lt, rm, pD2]
          · simp [f, p])
      rw [rng_len] at e
      rw [e]
      simp
      have : b + 1 + (L.length - (b + 1)) = L.length := by omega
      rw [this, prs_step, List.map_append])
  rw [rng_len] at e
  rw [e]
  simp
theorem pairs_ok {L : List Lf} (h : L.length ≤ 24) : p_m_pairs [blk L] = .ok (.tuple ((prs L L.length).map pD2)) := by
  rw [p_m_pairs, run1, q_m_pairs]
  have := mpairs_ok h
  unfold blk
  simp [this]
theorem prs_mem {L : List Lf} {p : Nat × Nat} (h : p ∈ prs L L.length) : ∃ lb lc, L[p.1]? = some lb ∧ L[p.2]? = some lc ∧ p.1 < p.2 ∧ 0 ≤ fm lb lc := by
  unfold prs row at h
  obtain ⟨b, hb, h⟩ := List.mem_flatMap.mp h
  obtain ⟨c, hc, rfl⟩ := List.mem_map.mp h
  obtain ⟨h1, h2⟩ := List.mem_filter.mp hc
  rw [Bool.and_eq_true] at h2
  obtain ⟨lb, eb⟩ := get_of (xs := L) (List.mem_range.mp hb)
  obtain ⟨lc, ec⟩ := get_of (xs := L) (List.mem_range.mp h1)
  rw [pairB_eq eb ec] at h2
  exact ⟨lb, lc, eb, ec, of_decide_eq_true h2.1, of_decide_eq_true h2.2⟩
theorem mem_prs {L : List Lf} {b c : Nat} {lb lc : Lf} (hb : L[b]? = some lb) (hc : L[c]? = some lc) (h : b < c) (f : 0 ≤ fm lb lc) : (b, c) ∈ prs L L.length := by
  unfold prs row
  refine List.mem_flatMap.mpr ⟨b, List.mem_range.mpr (get_lt hb), List.mem_map.mpr ⟨c, List.mem_filter.mpr ⟨List.mem_range.mpr (get_lt hc), ?_⟩, rfl⟩⟩
  rw [Bool.and_eq_true, pairB_eq hb hc]
  exact ⟨decide_eq_true h, decide_eq_true f⟩
/-! ### the law's own meeting -/
theorem fm_alive {lb lc : Lf} (gb : GL lb) (gc : GL lc) {m : Int} : (alive lb m = true ∧ alive lc m = true) ↔ (fm lb lc ≠ -1 ∧ fm lb lc ≤ m ∧ m < min (lb.1 + lb.2.length) (lc.1 + lc.2.length)) := by
  have h1 := gb.f0
  have h2 := gc.f0
  unfold alive fm
  rw [decide_eq_true_eq, decide_eq_true_eq]
  split <;> omega
theorem lmeet_ok {L : List Lf} {b c : Nat} {lb lc : Lf} (hb : L[b]? = some lb) (hc : L[c]? = some lc) (gb : GL lb) (gc : GL lc) (e40 : lb.1 + lb.2.length ≤ 40) :
    p_u_law_meeting [.d (livL L), nD b, nD c] = .ok (.int (if b = c then -1 else fm lb lc)) := by
  rw [p_u_law_meeting, run3, q_u_law_meeting]
  unfold nD
  by_cases e : b = c
  · subst e
    simp
  · have e' : ¬ ((b : Int) = c) := by omega
    simp [List.replicate, e, e']
    have step : ∀ (i : Nat) (s3 : SV), fTurn (gName1 3) (qIf (pAndT (pTest (p2 fGe (pCall p_u_law_length (pCons (pD (p2 fIx (pSq 0) (pV 1))) (pCons (pArg 3) pNil))) (pK (.int 0)))) (pTest (p2 fGe (pCall p_u_law_length (pCons (pD (p2 fIx (pSq 0) (pV 2))) (pCons (pArg 3) pNil))) (pK (.int 0))))) (qRet (pV 3)) qNext) (.int (i : Int)) [.d (livL L), .d (.int b), .d (.int c), s3] =
        if alive lb i = true ∧ alive lc i = true then .rt (.int i) else .nx [.d (livL L), .d (.int b), .d (.int c), .d (.int i)] := by
      intro i s3
      have e1 := llen_ok lb i
      have e2 := llen_ok lc i
      simp
      rw [show sqOf (livL L) = .ok (false, L.map lifeD) from rfl]
      simp [atI_n, hb, hc, e1, e2, la_ge gb, la_ge gc]
      by_cases x : alive lb i = true
      · by_cases y : alive lc i = true
        · simp [x, y]
        · simp [x, y]
      · simp [x]
    by_cases p : fm lb lc = -1
    · obtain ⟨ρ', e, s3, rfl⟩ := for_all (rngD 0 40) (fun i ρ => ∃ s3, ρ = [.d (livL L), .d (.int b), .d (.int c), s3]) [.d (livL L), .d (.int b), .d (.int c), .un] ⟨_, rfl⟩ (by
        rintro i x ρ hx ⟨s3, rfl⟩
        obtain ⟨_, rfl⟩ := rng_get hx
        rw [Int.zero_add]
        exact ⟨_, by rw [step i s3, if_neg (fun k => ((fm_alive gb gc).mp k).1 p)], _, rfl⟩)
      rw [e, p]
      simp
    · obtain ⟨k, hk⟩ : ∃ k : Nat, fm lb lc = (k : Int) := ⟨(fm lb lc).toNat, by have := fm_pos p; have := gb.f0; omega⟩
      have q := fm_pos p
      have r := for_rt (d := .int (k : Int)) k (rngD 0 40) (fun i ρ => ∃ s3, ρ = [.d (livL L), .d (.int b), .d (.int c), s3]) [.d (livL L), .d (.int b), .d (.int c), .un] (by rw [rng_len]; omega) ⟨_, rfl⟩ (by
        rintro i x ρ hi hx ⟨s3, rfl⟩
        obtain ⟨_, rfl⟩ := rng_get hx
        rw [Int.zero_add]
        exact ⟨_, by rw [step i s3, if_neg (fun z => by have := ((fm_alive gb gc).mp z).2.1; omega)], _, rfl⟩) (by
        rintro x ρ hx ⟨s3, rfl⟩
        obtain ⟨_, rfl⟩ := rng_get hx
        rw [Int.zero_add, step k s3, if_pos ((fm_alive gb gc).mpr ⟨p, by omega, by omega⟩)])
      rw [r, hk]
      simp
end K70

set_option Elab.async false
set_option linter.all false
set_option maxRecDepth 100000
set_option maxHeartbeats 2000000
namespace K70
open PySem L2 Sm
theorem for_tt {g : PyData → List SV → Option (List SV)} {q : List SV → Fl} {α : Type} (f : α → PyData) (T : α → Bool) (d : PyData) : ∀ (xs : List α) (I : Nat → List SV → Prop) (ρ : List SV), I 0 ρ → (∀ i x ρ, xs[i]? = some x → I i ρ → if T x = true then ∃ ρ', fTurn g q (f x) ρ = .nx ρ' ∧ I (i + 1) ρ' else fTurn g q (f x) ρ = .rt d) →
    if xs.all T = true then ∃ ρ', forGo g q (xs.map f) ρ = .nx ρ' ∧ I xs.length ρ' else forGo g q (xs.map f) ρ = .rt d
  | [], I, ρ, h0, _ => by rw [if_pos (by simp)]; exact ⟨ρ, rfl, h0⟩
  | x :: r, I, ρ, h0, hs => by
    have h := hs 0 x ρ rfl h0
    rw [List.all_cons, List.map_cons]
    by_cases t : T x = true
    · rw [if_pos t] at h
      obtain ⟨ρ1, e1, h1⟩ := h
      have k := for_tt f T d r (fun i => I (i + 1)) ρ1 h1 fun i y ρ e h => hs (i + 1) y ρ (by simpa using e) h
      rw [t, Bool.true_and, forGo_nx e1]
      exact k
    · rw [if_neg t] at h
      rw [if_neg (by simp [t])]
      exact forGo_rt h
/-- good lives, all over by moment 40 -/
structure LL (L : List Lf) : Prop where
  g : GLs L
  e40 : ∀ l ∈ L, l.1 + l.2.length ≤ 40
  ne : L ≠ []
def sv (S : List Int) (b : Nat) : Int := (S[b]?).getD 0
theorem sv_at {S : List Int} {b : Nat} (h : b < S.length) : atI (S.map PyData.int) (b : Int) = some (.int (sv S b)) := by
  rw [atI_n]
  unfold sv
  obtain ⟨x, e⟩ := get_of h
  rw [List.getElem?_map, e]
  rfl
structure GS (L : List Lf) (S : List Int) : Prop where
  len : S.length = L.length
  nn : ∀ s ∈ S, 0 ≤ s
theorem GS.sv {L : List Lf} {S : List Int} (h : GS L S) {b : Nat} {l : Lf} (hb : L[b]? = some l) : atI (S.map PyData.int) (b : Int) = some (.int (sv S b)) := sv_at (by rw [h.len]; exact get_lt hb)
/-! ### wrong starts -/
def gW : PyData → List SV → Option (List SV) := gNames [2, 3]
def qW : List SV → Fl := (qIf (pOrT (pTest (p2 fGe (pV 2) (pFld 1 (pObj 0)))) (pOrT (pNotT (pTest (pCall p_is_whole (pCons (pArg 3) pNil)))) (pTest (p2 fLt (pV 3) (pK (.int 0)))))) (qRet (pV 2)) qNext)
def stW (L : List Lf) (x : PyData) (s2 s3 : SV) : List SV := [blk L, .d x, s2, s3]
theorem wrong_turn {L : List Lf} {x : PyData} {i : Nat} {n : Int} {s2 s3 : SV} (hi : i < L.length) (hn : 0 ≤ n) : fTurn gW qW (.tuple [.int (i : Int), .int n]) (stW L x s2 s3) = .nx (stW L x (.d (.int i)) (.d (.int n))) := by
  have h1 : ¬ ((L.length : Int) ≤ (i : Int)) := by omega
  have h2 : ¬ n < 0 := by omega
  have h3 : ¬ L.length ≤ i := by omega
  unfold gW qW stW blk
  simp [h1, h2, h3, whole_i]
theorem wrong_pre {L : List Lf} {S : List Int} (hS : ∀ s ∈ S, 0 ≤ s) (hl : S.length ≤ L.length) (x : PyData) (rest : List PyData) : ∃ s2 s3, forGo gW qW (enumD 0 (S.map .int ++ rest)) (stW L x .un .un) = forGo gW qW (enumD S.length rest) (stW L x s2 s3) := by
  rw [enu_app]
  obtain ⟨ρ', e, s2, s3, rfl⟩ := for_pre (g := gW) (q := qW) (enumD (0 + (S.map PyData.int).length) rest) (enumD 0 (S.map PyData.int)) (fun i ρ => ∃ s2 s3, ρ = stW L x s2 s3) (stW L x .un .un) ⟨_, _, rfl⟩ (by
    rintro i y ρ hx ⟨s2, s3, rfl⟩
    obtain ⟨z, h1, rfl⟩ := enu_get hx
    obtain ⟨n, h2, rfl⟩ := map_get h1
    rw [Nat.zero_add]
    exact ⟨_, wrong_turn (by have := get_lt h2; omega) (hS n (mem_at h2)), _, _, rfl⟩)
  refine ⟨s2, s3, ?_⟩
  rw [e]
  simp
theorem wrong_eq {L : List Lf} (t : Bool) (xs : List PyData) : p_wrong_start [blk L, .d (sqD t xs)] = endF (sqK (qRet (pIf (pTest (p2 fEq (p1 fLen (pSq 1)) (pFld 1 (pObj 0)))) (p1 fNeg (pK (.int 1))) (p1 fLen (pSq 1)))) (forGo gW qW (enumD 0 xs) (stW L (sqD t xs) .un .un))) := by
  rw [p_wrong_start, run2, q_wrong_start]
  unfold blk stW gW qW
  simp [List.replicate]
  rfl
theorem wrong_no {L : List Lf} (i : Int) : p_wrong_start [blk L, .d (.int i)] = .ok (.int 0) := by
  rw [p_wrong_start, run2, q_wrong_start]
  simp
theorem wrong_len {L : List Lf} {S : List Int} (hS : ∀ s ∈ S, 0 ≤ s) (hl : S.length ≤ L.length) (t : Bool) : p_wrong_start [blk L, .d (sqD t (S.map .int))] = .ok (.int (if S.length = L.length then -1 else S.length)) := by
  rw [wrong_eq]
  obtain ⟨s2, s3, e⟩ := wrong_pre (L := L) hS hl (sqD t (S.map .int)) []
  rw [List.append_nil] at e
  rw [e]
  unfold enumD
  rw [forGo_nil]
  unfold stW blk
  simp
  by_cases k : S.length = L.length
  · simp [k]
  · have : ¬ ((S.length : Int) = L.length) := by omega
    simp [k, this]
theorem wrong_at {L : List Lf} {S : List Int} (hS : ∀ s ∈ S, 0 ≤ s) (hl : S.length ≤ L.length) (t : Bool) {y : PyData} {rest : List PyData}
    (hy : S.length = L.length ∨ p_is_whole [.d y] = .ok (.bool false) ∨ ∃ n, y = .int n ∧ n < 0) : p_wrong_start [blk L, .d (sqD t (S.map .int ++ y :: rest))] = .ok (.int S.length) := by
  rw [wrong_eq]
  obtain ⟨s2, s3, e⟩ := wrong_pre (L := L) hS hl (sqD t (S.map .int ++ y :: rest)) (y :: rest)
  rw [e]
  unfold enumD
  rw [forGo_cons]
  unfold stW blk gW qW
  by_cases k : S.length = L.length
  · simp [k]
  · have k2 : ¬ ((L.length : Int) ≤ S.length) := by omega
    have k3 : ¬ (L.length ≤ S.length) := by omega
    rcases hy.resolve_left k with h | ⟨n, rfl, h⟩
    · simp [k2, k3, h]
    · simp [k2, k3, h, whole_i]
theorem wrong_good {L : List Lf} {S : List Int} (h : GS L S) (t : Bool) : p_wrong_start [blk L, .d (sqD t (S.map .int))] = .ok (.int (-1)) := by
  rw [wrong_len h.nn (by rw [h.len]; exact Nat.le_refl _), if_pos h.len]
/-! ### placings -/
def apt (s l o t : Int) : Prop := s + l ≤ o ∨ o + t ≤ s
instance (s l o t : Int) : Decidable (apt s l o t) := by unfold apt; infer_instance
def Placed (L : List Lf) (S : List Int) : Prop := ∀ (b c : Nat) (lb lc : Lf), b < c → L[b]? = some lb → L[c]? = some lc → ∀ m : Int, alive lb m = true → alive lc m = true → apt (sv S b) (la lb m) (sv S c) (la lc m)
noncomputable def plc (L : List Lf) (S : List Int) : Bool := @decide (Placed L S) (Classical.propDecidable _)
theorem plc_of {L : List Lf} {S : List Int} {b : Bool} (h : b = true ↔ Placed L S) : b = plc L S := by
  unfold plc
  cases b with
  | true => exact (@decide_eq_true _ (Classical.propDecidable _) (h.mp rfl)).symm
  | false => exact (@decide_eq_false _ (Classical.propDecidable _) (fun k => by have := h.mpr k; cases this)).symm
def lv (L : List Lf) (b : Nat) : Lf := (L[b]?).getD (0, [])
theorem lv_at {L : List Lf} {b : Nat} {l : Lf} (h : L[b]? = some l) : lv L b = l := by unfold lv; rw [h]; rfl
def tMom (L : List Lf) (S : List Int) (p : Nat × Nat) (i : Nat) : Bool := decide (apt (sv S p.1) (la (lv L p.1) (fm (lv L p.1) (lv L p.2) + i)) (sv S p.2) (la (lv L p.2) (fm (lv L p.1) (lv L p.2) + i)))
def lst (lb lc : Lf) : Int := min (lb.1 + lb.2.length) (lc.1 + lc.2.length)
def tPair (L : List Lf) (S : List Int) (p : Nat × Nat) : Bool := (List.range (lst (lv L p.1) (lv L p.2) - fm (lv L p.1) (lv L p.2)).toNat).all (tMom L S p)
theorem isp_raw {L : List Lf} (h : LL L) {S : List Int} (hS : GS L S) (t : Bool) : p_is_placing [blk L, .d (sqD t (S.map .int))] = .ok (.bool ((prs L L.length).all (tPair L S))) := by
  rw [p_is_placing, run2, q_is_placing]
  have hw := wrong_good hS t
  have hp := pairs_ok h.g.few
  have main := for_tt (g := gNames [2, 3]) (q := (qSeq (qSet 4 (p2 fMin2 (pCall p_ending (pCons (pD (p2 fIx (pSeqOf (pFld 0 (pObj 0))) (pV 2))) pNil)) (pCall p_ending (pCons (pD (p2 fIx (pSeqOf (pFld 0 (pObj 0))) (pV 3))) pNil))))
  (qFor (iRg2 (pMeth p_m_meeting (pObj 0) (pCons (pArg 2) (pCons (pArg 3) pNil))) (pV 4)) (gName1 5) (qIf (pNotT (pTest (pCall p_apart (pCons (pD (p2 fIx (pSq 1) (pV 2))) (pCons (pD (pMeth p_m_length_then (pObj 0) (pCons (pArg 2) (pCons (pArg 5) pNil)))) (pCons (pD (p2 fIx (pSq 1) (pV 3))) (pCons (pD (pMeth p_m_length_then (pObj 0) (pCons (pArg 3) (pCons (pArg 5) pNil)))) pNil))))))) (qRet (pK (.bool false))) qNext))))
    pD2 (tPair L S) (.bool false) (prs L L.length) (fun _ ρ => ∃ s2 s3 s4 s5, ρ = [blk L, .d (sqD t (S.map .int)), s2, s3, s4, s5]) [blk L, .d (sqD t (S.map .int)), .un, .un, .un, .un] ⟨_, _, _, _, rfl⟩ (by
      rintro i ⟨b, c⟩ ρ hx ⟨s2, s3, s4, s5, rfl⟩
      obtain ⟨lb, lc, eb, ec, lt, f0⟩ := prs_mem (mem_at hx)
      have vb : lv L b = lb := lv_at eb
      have vc : lv L c = lc := lv_at ec
      have fn : fm lb lc ≠ -1 := by omega
      have q := fm_pos fn
      have mt := meeting_ok eb ec
      rw [if_neg (Nat.ne_of_lt lt)] at mt
      have eb' : L[b]? = some lb := eb
      have ec' : L[c]? = some lc := ec
      have e1 := ending_ok lb
      have e2 := ending_ok lc
      have x1 := h.e40 lb (mem_at eb)
      have x2 := h.e40 lc (mem_at ec)
      have inner := for_tt (g := gName1 5) (q := (qIf (pNotT (pTest (pCall p_apart (pCons (pD (p2 fIx (pSq 1) (pV 2))) (pCons (pD (pMeth p_m_length_then (pObj 0) (pCons (pArg 2) (pCons (pArg 5) pNil)))) (pCons (pD (p2 fIx (pSq 1) (pV 3))) (pCons (pD (pMeth p_m_length_then (pObj 0) (pCons (pArg 3) (pCons (pArg 5) pNil)))) pNil))))))) (qRet (pK (.bool false))) qNext))
        (fun (i : Nat) => PyData.int (fm lb lc + i)) (tMom L S (b, c)) (.bool false) (List.range (lst lb lc - fm lb lc).toNat) (fun _ ρ => ∃ s5, ρ = [blk L, .d (sqD t (S.map .int)), nD b, nD c, .d (.int (lst lb lc)), s5]) [blk L, .d (sqD t (S.map .int)), nD b, nD c, .d (.int (lst lb lc)), s5] ⟨_, rfl⟩ (by
          rintro i x ρ hx ⟨s5, rfl⟩
          have hi := List.mem_range.mp (mem_at hx)
          have a1 : fm lb lc + x < lst lb lc := by omega
          have y1 := then_ok (m := fm lb lc + x) eb (by omega) (by unfold lst at a1; omega)
          have y2 := then_ok (m := fm lb lc + x) ec (by omega) (by unfold lst at a1; omega)
          have z1 := hS.sv eb
          have z2 := hS.sv ec
          unfold tMom
          dsimp only
          rw [vb, vc]
          unfold nD blk at *
          by_cases k : apt (sv S b) (la lb (fm lb lc + x)) (sv S c) (la lc (fm lb lc + x))
          · have k' := k
            unfold apt at k'
            simp [y1, y2, z1, z2, k, apart_ok, k']
          · have k' := k
            unfold apt at k'
            simp [y1, y2, z1, z2, k, apart_ok, k'])
      have tp : tPair L S (b, c) = (List.range (lst lb lc - fm lb lc).toNat).all (tMom L S (b, c)) := by
        unfold tPair
        dsimp only
        rw [vb, vc]
      rw [tp]
      have rr : rgK2 (.int (fm lb lc)) (.int (lst lb lc)) = .ok ((List.range (lst lb lc - fm lb lc).toNat).map (fun (i : Nat) => PyData.int (fm lb lc + i))) := rgK2_i (by omega) (by omega) (by unfold lst; omega) (by unfold lst; omega)
      have sq : sqOf (livT L) = .ok (true, L.map lifeD) := rfl
      have front : ∀ r, forGo (gName1 5) (qIf (pNotT (pTest (pCall p_apart (pCons (pD (p2 fIx (pSq 1) (pV 2))) (pCons (pD (pMeth p_m_length_then (pObj 0) (pCons (pArg 2) (pCons (pArg 5) pNil)))) (pCons (pD (p2 fIx (pSq 1) (pV 3))) (pCons (pD (pMeth p_m_length_then (pObj 0) (pCons (pArg 3) (pCons (pArg 5) pNil)))) pNil))))))) (qRet (pK (.bool false))) qNext) ((List.range (lst lb lc - fm lb lc).toNat).map (fun (i : Nat) => PyData.int (fm lb lc + i))) [blk L, .d (sqD t (S.map .int)), nD b, nD c, .d (.int (lst lb lc)), s5] = r →
          fTurn (gNames [2, 3]) (qSeq (qSet 4 (p2 fMin2 (pCall p_ending (pCons (pD (p2 fIx (pSeqOf (pFld 0 (pObj 0))) (pV 2))) pNil)) (pCall p_ending (pCons (pD (p2 fIx (pSeqOf (pFld 0 (pObj 0))) (pV 3))) pNil))))
  (qFor (iRg2 (pMeth p_m_meeting (pObj 0) (pCons (pArg 2) (pCons (pArg 3) pNil))) (pV 4)) (gName1 5) (qIf (pNotT (pTest (pCall p_apart (pCons (pD (p2 fIx (pSq 1) (pV 2))) (pCons (pD (pMeth p_m_length_then (pObj 0) (pCons (pArg 2) (pCons (pArg 5) pNil)))) (pCons (pD (p2 fIx (pSq 1) (pV 3))) (pCons (pD (pMeth p_m_length_then (pObj 0) (pCons (pArg 3) (pCons (pArg 5) pNil)))) pNil))))))) (qRet (pK (.bool false))) qNext))) (pD2 (b, c)) [blk L, .d (sqD t (S.map .int)), s2, s3, s4, s5] = r := by
        intro r hr
        rw [← hr]
        unfold nD blk at *
        unfold pD2
        have es : min (lb.1 + (lb.2.length : Int)) (lc.1 + lc.2.length) = lst lb lc := rfl
        simp [sq, atI_n, eb, ec, e1, e2, mt, rr, es]
      by_cases k : (List.range (lst lb lc - fm lb lc).toNat).all (tMom L S (b, c)) = true
      · rw [if_pos k] at inner ⊢
        obtain ⟨ρ', i1, s5', rfl⟩ := inner
        exact ⟨_, front _ i1, _, _, _, _, rfl⟩
      · rw [if_neg k] at inner ⊢
        exact front _ inner)
  have go : ∀ r, forGo (gNames [2, 3]) (qSeq (qSet 4 (p2 fMin2 (pCall p_ending (pCons (pD (p2 fIx (pSeqOf (pFld 0 (pObj 0))) (pV 2))) pNil)) (pCall p_ending (pCons (pD (p2 fIx (pSeqOf (pFld 0 (pObj 0))) (pV 3))) pNil))))
  (qFor (iRg2 (pMeth p_m_meeting (pObj 0) (pCons (pArg 2) (pCons (pArg 3) pNil))) (pV 4)) (gName1 5) (qIf (pNotT (pTest (pCall p_apart (pCons (pD (p2 fIx (pSq 1) (pV 2))) (pCons (pD (pMeth p_m_length_then (pObj 0) (pCons (pArg 2) (pCons (pArg 5) pNil)))) (pCons (pD (p2 fIx (pSq 1) (pV 3))) (pCons (pD (pMeth p_m_length_then (pObj 0) (pCons (pArg 3) (pCons (pArg 5) pNil)))) pNil))))))) (qRet (pK (.bool false))) qNext))) ((prs L L.length).map pD2) [blk L, .d (sqD t (S.map .int)), .un, .un, .un, .un] = r →
      endF ((qSeq (qIf (pTest (p2 fNe (pCall p_wrong_start (pCons (pArg 0) (pCons (pArg 1) pNil))) (p1 fNeg (pK (.int 1))))) (qRet (pK (.bool false))) qNext)
  (qSeq (qFor (iSq (pMeth p_m_pairs (pObj 0) pNil)) (gNames [2, 3]) (qSeq (qSet 4 (p2 fMin2 (pCall p_ending (pCons (pD (p2 fIx (pSeqOf (pFld 0 (pObj 0))) (pV 2))) pNil)) (pCall p_ending (pCons (pD (p2 fIx (pSeqOf (pFld 0 (pObj 0))) (pV 3))) pNil))))
  (qFor (iRg2 (pMeth p_m_meeting (pObj 0) (pCons (pArg 2) (pCons (pArg 3) pNil))) (pV 4)) (gName1 5) (qIf (pNotT (pTest (pCall p_apart (pCons (pD (p2 fIx (pSq 1) (pV 2))) (pCons (pD (pMeth p_m_length_then (pObj 0) (pCons (pArg 2) (pCons (pArg 5) pNil)))) (pCons (pD (p2 fIx (pSq 1) (pV 3))) (pCons (pD (pMeth p_m_length_then (pObj 0) (pCons (pArg 3) (pCons (pArg 5) pNil)))) pNil))))))) (qRet (pK (.bool false))) qNext))))
  (qRet (pK (.bool true))))) (blk L :: .d (sqD t (S.map .int)) :: List.replicate (6 - 2) .un)) = endF (sqK (qRet (pK (.bool true))) r) := by
    intro r hr
    rw [← hr]
    unfold blk at *
    simp [List.replicate, hw, hp]
  by_cases k : (prs L L.length).all (tPair L S) = true
  · rw [if_pos k] at main
    obtain ⟨ρ', i1, _⟩ := main
    rw [go _ i1, k]
    simp
  · rw [if_neg k] at main
    rw [go _ main, Bool.not_eq_true _ |>.mp k]
    simp
theorem tPair_iff {L : List Lf} {S : List Int} {b c : Nat} {lb lc : Lf} (gb : GL lb) (gc : GL lc) (eb : L[b]? = some lb) (ec : L[c]? = some lc) (f : 0 ≤ fm lb lc) :
    tPair L S (b, c) = true ↔ ∀ m : Int, alive lb m = true → alive lc m = true → apt (sv S b) (la lb m) (sv S c) (la lc m) := by
  unfold tPair tMom
  dsimp only
  rw [lv_at eb, lv_at ec, List.all_eq_true]
  constructor
  · intro h m a1 a2
    obtain ⟨k1, k2, k3⟩ := (fm_alive gb gc).mp ⟨a1, a2⟩
    have := h (m - fm lb lc).toNat (List.mem_range.mpr (by unfold lst; omega))
    have := of_decide_eq_true this
    have e : fm lb lc + ((m - fm lb lc).toNat : Int) = m := by omega
    rwa [e] at this
  · intro h i hi
    have hi := List.mem_range.mp hi
    have := (fm_alive gb gc (m := fm lb lc + i)).mpr ⟨by omega, by omega, by unfold lst at hi; omega⟩
    exact decide_eq_true (h _ this.1 this.2)
theorem all_placed {L : List Lf} (h : GLs L) {S : List Int} {T : Nat × Nat → Bool} (hT : ∀ b c lb lc, GL lb → GL lc → b < c → L[b]? = some lb → L[c]? = some lc → 0 ≤ fm lb lc → (T (b, c) = true ↔ ∀ m : Int, alive lb m = true → alive lc m = true → apt (sv S b) (la lb m) (sv S c) (la lc m))) :
    (prs L L.length).all T = plc L S := by
  refine plc_of ?_
  rw [List.all_eq_true]
  constructor
  · intro k b c lb lc lt eb ec m a1 a2
    have gb := h.all lb (mem_at eb)
    have gc := h.all lc (mem_at ec)
    have z := (fm_alive gb gc).mp ⟨a1, a2⟩
    have f : 0 ≤ fm lb lc := by have := fm_pos z.1; have := gb.f0; omega
    exact (hT b c lb lc gb gc lt eb ec f).mp (k (b, c) (mem_prs eb ec lt f)) m a1 a2
  · rintro k ⟨b, c⟩ hp
    obtain ⟨lb, lc, eb, ec, lt, f⟩ := prs_mem hp
    exact (hT b c lb lc (h.all lb (mem_at eb)) (h.all lc (mem_at ec)) lt eb ec f).mpr fun m a1 a2 => k b c lb lc lt eb ec m a1 a2
theorem isp_ok {L : List Lf} (h : LL L) {S : List Int} (hS : GS L S) (t : Bool) : p_is_placing [blk L, .d (sqD t (S.map .int))] = .ok (.bool (plc L S)) := by
  rw [isp_raw h hS t, all_placed h.g fun b c lb lc gb gc lt eb ec f => tPair_iff gb gc eb ec f]
end K70

set_option Elab.async false
set_option linter.all false
set_option maxRecDepth 100000
set_option maxHeartbeats 2000000
namespace K70
open PySem L2 Sm
theorem fm_comm (lb lc : Lf) : fm lb lc = fm lc lb := by
  unfold fm
  rw [Int.min_comm, Int.max_comm]
def tAp (L : List Lf) (S : List Int) (p : Nat × Nat) : Bool := decide (apt (sv S p.1) (la (lv L p.1) (fm (lv L p.1) (lv L p.2))) (sv S p.2) (la (lv L p.2) (fm (lv L p.1) (lv L p.2))))
theorem tAp_iff {L : List Lf} {S : List Int} {b c : Nat} {lb lc : Lf} (gb : GL lb) (gc : GL lc) (eb : L[b]? = some lb) (ec : L[c]? = some lc) (f : 0 ≤ fm lb lc) :
    tAp L S (b, c) = true ↔ ∀ m : Int, alive lb m = true → alive lc m = true → apt (sv S b) (la lb m) (sv S c) (la lc m) := by
  unfold tAp
  dsimp only
  rw [lv_at eb, lv_at ec, decide_eq_true_eq]
  have q := fm_pos (lb := lb) (lc := lc) (by omega)
  constructor
  · intro h m a1 a2
    obtain ⟨k1, k2, k3⟩ := (fm_alive gb gc).mp ⟨a1, a2⟩
    have d1 := la_dec gb (m := fm lb lc) (m' := m) k2 q.2.1 (by omega)
    have d2 := la_dec gc (m := fm lb lc) (m' := m) k2 q.2.2.2.1 (by omega)
    unfold apt at h ⊢
    omega
  · intro h
    exact h _ (decide_eq_true ⟨q.2.1, q.2.2.1⟩) (decide_eq_true ⟨q.2.2.2.1, q.2.2.2.2⟩)
theorem aps_ok {L : List Lf} (h : LL L) {S : List Int} (hS : GS L S) (t : Bool) : p_apart_pairs [blk L, .d (sqD t (S.map .int))] = .ok (.bool (plc L S)) := by
  rw [← all_placed h.g (T := tAp L S) fun b c lb lc gb gc lt eb ec f => tAp_iff gb gc eb ec f]
  rw [p_apart_pairs, run2, q_apart_pairs]
  have hw := wrong_good hS t
  have hp := pairs_ok h.g.few
  have main := for_tt (g := gNames [2, 3]) (q := (qIf (pNotT (pTest (pCall p_apart (pCons (pD (p2 fIx (pSq 1) (pV 2))) (pCons (pD (pMeth p_m_len_pair (pObj 0) (pCons (pArg 2) (pCons (pArg 3) pNil)))) (pCons (pD (p2 fIx (pSq 1) (pV 3))) (pCons (pD (pMeth p_m_len_pair (pObj 0) (pCons (pArg 3) (pCons (pArg 2) pNil)))) pNil))))))) (qRet (pK (.bool false))) qNext))
    pD2 (tAp L S) (.bool false) (prs L L.length) (fun _ ρ => ∃ s2 s3, ρ = [blk L, .d (sqD t (S.map .int)), s2, s3]) [blk L, .d (sqD t (S.map .int)), .un, .un] ⟨_, _, rfl⟩ (by
      rintro i ⟨b, c⟩ ρ hx ⟨s2, s3, rfl⟩
      obtain ⟨lb, lc, eb, ec, lt, f0⟩ := prs_mem (mem_at hx)
      have eb' : L[b]? = some lb := eb
      have ec' : L[c]? = some lc := ec
      have lt' : b < c := lt
      have y1 := lenp_ok eb' ec' (by omega) (by omega)
      have y2 := lenp_ok ec' eb' (by omega) (by rw [fm_comm]; omega)
      rw [fm_comm] at y2
      have z1 := hS.sv eb'
      have z2 := hS.sv ec'
      unfold tAp
      dsimp only
      rw [lv_at eb', lv_at ec']
      unfold nD blk at *
      unfold pD2
      by_cases k : apt (sv S b) (la lb (fm lb lc)) (sv S c) (la lc (fm lb lc))
      · have k' := k
        unfold apt at k'
        simp [y1, y2, z1, z2, k, apart_ok, k']
      · have k' := k
        unfold apt at k'
        simp [y1, y2, z1, z2, k, apart_ok, k'])
  unfold blk at *
  simp [List.replicate, hw, hp]
  by_cases k : (prs L L.length).all (tAp L S) = true
  · rw [if_pos k] at main
    obtain ⟨ρ', i1, _⟩ := main
    rw [i1, k]
    simp
  · rw [if_neg k] at main
    rw [main, Bool.not_eq_true _ |>.mp k]
    simp
/-! ### the law's own placing -/
def tLa (L : List Lf) (S : List Int) (m : Int) (b c : Nat) : Bool := !(alive (lv L b) m && alive (lv L c) m && decide (sv S c < sv S b + la (lv L b) m) && decide (sv S b < sv S c + la (lv L c) m))
def tLb (L : List Lf) (S : List Int) (m : Int) (b : Nat) : Bool := (List.range b).all (tLa L S m b)
theorem rng0 (n : Nat) : rngD 0 n = (List.range n).map (fun (i : Nat) => PyData.int (0 + (i : Int))) := rfl
theorem lapart_ok {L : List Lf} (h : LL L) {S : List Int} (hS : GS L S) (m : Nat) : p_u_law_apart [.d (livL L), .d (.list (S.map .int)), .d (.int m)] = .ok (.bool ((List.range L.length).all (tLb L S m))) := by
  rw [p_u_law_apart, run3, q_u_law_apart]
  have few := h.g.few
  have sq : sqOf (livL L) = .ok (false, L.map lifeD) := rfl
  have main := for_tt (g := gName1 3) (q := (qFor (iRg1 (pV 3)) (gName1 4) (qSeq (qSet 5 (pCall p_u_law_length (pCons (pD (p2 fIx (pSq 0) (pV 3))) (pCons (pArg 2) pNil))))
  (qSeq (qSet 6 (pCall p_u_law_length (pCons (pD (p2 fIx (pSq 0) (pV 4))) (pCons (pArg 2) pNil))))
  (qIf (pAndT (pTest (p2 fGe (pV 5) (pK (.int 0)))) (pAndT (pTest (p2 fGe (pV 6) (pK (.int 0)))) (pAndT (pTest (p2 fGt (p2 fAdd (p2 fIx (pSq 1) (pV 3)) (pV 5)) (p2 fIx (pSq 1) (pV 4)))) (pTest (p2 fGt (p2 fAdd (p2 fIx (pSq 1) (pV 4)) (pV 6)) (p2 fIx (pSq 1) (pV 3))))))) (qRet (pK (.bool false))) qNext)))))
    (fun (i : Nat) => PyData.int (0 + (i : Int))) (tLb L S m) (.bool false) (List.range L.length) (fun _ ρ => ∃ s3 s4 s5 s6, ρ = [.d (livL L), .d (.list (S.map .int)), .d (.int m), s3, s4, s5, s6]) [.d (livL L), .d (.list (S.map .int)), .d (.int m), .un, .un, .un, .un] ⟨_, _, _, _, rfl⟩ (by
      rintro i b ρ hx ⟨s3, s4, s5, s6, rfl⟩
      have hb := List.mem_range.mp (mem_at hx)
      obtain ⟨lb, eb⟩ := get_of hb
      have inner := for_tt (g := gName1 4) (q := (qSeq (qSet 5 (pCall p_u_law_length (pCons (pD (p2 fIx (pSq 0) (pV 3))) (pCons (pArg 2) pNil))))
  (qSeq (qSet 6 (pCall p_u_law_length (pCons (pD (p2 fIx (pSq 0) (pV 4))) (pCons (pArg 2) pNil))))
  (qIf (pAndT (pTest (p2 fGe (pV 5) (pK (.int 0)))) (pAndT (pTest (p2 fGe (pV 6) (pK (.int 0)))) (pAndT (pTest (p2 fGt (p2 fAdd (p2 fIx (pSq 1) (pV 3)) (pV 5)) (p2 fIx (pSq 1) (pV 4)))) (pTest (p2 fGt (p2 fAdd (p2 fIx (pSq 1) (pV 4)) (pV 6)) (p2 fIx (pSq 1) (pV 3))))))) (qRet (pK (.bool false))) qNext))))
        (fun (i : Nat) => PyData.int (0 + (i : Int))) (tLa L S m b) (.bool false) (List.range b) (fun _ ρ => ∃ s4 s5 s6, ρ = [.d (livL L), .d (.list (S.map .int)), .d (.int m), nD b, s4, s5, s6]) [.d (livL L), .d (.list (S.map .int)), .d (.int m), nD b, s4, s5, s6] ⟨_, _, _, rfl⟩ (by
          rintro j c ρ hx ⟨s4, s5, s6, rfl⟩
          have hc := List.mem_range.mp (mem_at hx)
          obtain ⟨lc, ec⟩ := get_of (xs := L) (i := c) (by omega)
          have gb := h.g.all lb (mem_at eb)
          have gc := h.g.all lc (mem_at ec)
          have y1 := llen_ok lb m
          have y2 := llen_ok lc m
          have z1 := hS.sv eb
          have z2 := hS.sv ec
          unfold tLa
          rw [lv_at eb, lv_at ec]
          unfold nD
          rw [Int.zero_add]
          by_cases a1 : alive lb m = true
          · by_cases a2 : alive lc m = true
            · by_cases k1 : sv S c < sv S b + la lb m
              · by_cases k2 : sv S b < sv S c + la lc m
                · simp [sq, atI_n, eb, ec, y1, y2, z1, z2, la_ge gb, la_ge gc, a1, a2, k1, k2]
                · simp [sq, atI_n, eb, ec, y1, y2, z1, z2, la_ge gb, la_ge gc, a1, a2, k1, k2]
              · simp [sq, atI_n, eb, ec, y1, y2, z1, z2, la_ge gb, la_ge gc, a1, a2, k1]
            · simp [sq, atI_n, eb, ec, y1, y2, z1, z2, la_ge gb, la_ge gc, a1, a2]
          · simp [sq, atI_n, eb, ec, y1, y2, z1, z2, la_ge gb, la_ge gc, a1])
      have rr : rgK1 (.int (b : Int)) = .ok ((List.range b).map (fun (i : Nat) => PyData.int (0 + (i : Int)))) := rgK1_n (by omega)
      unfold nD at inner
      rw [Int.zero_add]
      simp only [turn_eq, ev_gName1, ev_For, ev_iRg1, ev_V, List.set_cons_succ, List.set_cons_zero, List.getElem?_cons_succ, List.getElem?_cons_zero, R.bind_ok, rr, ev_bFl_ok]
      by_cases k : tLb L S m b = true
      · rw [if_pos k]
        unfold tLb at k
        rw [if_pos k] at inner
        obtain ⟨ρ', i1, s4, s5, s6, rfl⟩ := inner
        exact ⟨_, i1, _, _, _, _, rfl⟩
      · rw [if_neg k]
        unfold tLb at k
        rw [if_neg k] at inner
        exact inner)
  have rr : rgK1 (.int (L.length : Int)) = .ok ((List.range L.length).map (fun (i : Nat) => PyData.int (0 + (i : Int)))) := rgK1_n (by omega)
  rw [ev_Seq]
  have e0 : qFor (iRg1 (p1 fLen (pSq 0))) (gName1 3) (qFor (iRg1 (pV 3)) (gName1 4) (qSeq (qSet 5 (pCall p_u_law_length (pCons (pD (p2 fIx (pSq 0) (pV 3))) (pCons (pArg 2) pNil))))
  (qSeq (qSet 6 (pCall p_u_law_length (pCons (pD (p2 fIx (pSq 0) (pV 4))) (pCons (pArg 2) pNil))))
  (qIf (pAndT (pTest (p2 fGe (pV 5) (pK (.int 0)))) (pAndT (pTest (p2 fGe (pV 6) (pK (.int 0)))) (pAndT (pTest (p2 fGt (p2 fAdd (p2 fIx (pSq 1) (pV 3)) (pV 5)) (p2 fIx (pSq 1) (pV 4)))) (pTest (p2 fGt (p2 fAdd (p2 fIx (pSq 1) (pV 4)) (pV 6)) (p2 fIx (pSq 1) (pV 3))))))) (qRet (pK (.bool false))) qNext)))) (.d (livL L) :: .d (.list (S.map .int)) :: .d (.int m) :: List.replicate (7 - 3) .un) = forGo (gName1 3) (qFor (iRg1 (pV 3)) (gName1 4) (qSeq (qSet 5 (pCall p_u_law_length (pCons (pD (p2 fIx (pSq 0) (pV 3))) (pCons (pArg 2) pNil))))
  (qSeq (qSet 6 (pCall p_u_law_length (pCons (pD (p2 fIx (pSq 0) (pV 4))) (pCons (pArg 2) pNil))))
  (qIf (pAndT (pTest (p2 fGe (pV 5) (pK (.int 0)))) (pAndT (pTest (p2 fGe (pV 6) (pK (.int 0)))) (pAndT (pTest (p2 fGt (p2 fAdd (p2 fIx (pSq 1) (pV 3)) (pV 5)) (p2 fIx (pSq 1) (pV 4)))) (pTest (p2 fGt (p2 fAdd (p2 fIx (pSq 1) (pV 4)) (pV 6)) (p2 fIx (pSq 1) (pV 3))))))) (qRet (pK (.bool false))) qNext)))) ((List.range L.length).map (fun (i : Nat) => PyData.int (0 + (i : Int)))) [.d (livL L), .d (.list (S.map .int)), .d (.int m), .un, .un, .un, .un] := by
    simp [List.replicate, sq, rr]
  rw [e0]
  by_cases k : (List.range L.length).all (tLb L S m) = true
  · rw [if_pos k] at main
    obtain ⟨ρ', i1, _⟩ := main
    rw [i1, k]
    simp
  · rw [if_neg k] at main
    rw [main, Bool.not_eq_true _ |>.mp k]
    simp
theorem lplaced_raw {L : List Lf} (h : LL L) {S : List Int} (hS : GS L S) : p_u_law_placed [.d (livL L), .d (.list (S.map .int))] = .ok (.bool ((List.range 40).all fun m => (List.range L.length).all (tLb L S m))) := by
  rw [p_u_law_placed, run2, q_u_law_placed]
  have main := for_tt (g := gName1 2) (q := (qIf (pNotT (pTest (pCall p_u_law_apart (pCons (pArg 0) (pCons (pArg 1) (pCons (pArg 2) pNil)))))) (qRet (pK (.bool false))) qNext))
    (fun (i : Nat) => PyData.int (0 + (i : Int))) (fun (m : Nat) => (List.range L.length).all (tLb L S m)) (.bool false) (List.range 40) (fun _ ρ => ∃ s2, ρ = [.d (livL L), .d (.list (S.map .int)), s2]) [.d (livL L), .d (.list (S.map .int)), .un] ⟨_, rfl⟩ (by
      rintro i m ρ hx ⟨s2, rfl⟩
      have e := lapart_ok h hS m
      rw [Int.zero_add]
      by_cases k : (List.range L.length).all (tLb L S m) = true
      · rw [k] at e ⊢
        simp [e]
      · rw [Bool.not_eq_true _ |>.mp k] at e ⊢
        simp [e])
  simp [List.replicate]
  rw [rng0]
  by_cases k : ((List.range 40).all fun m => (List.range L.length).all (tLb L S m)) = true
  · rw [if_pos k] at main
    obtain ⟨ρ', i1, _⟩ := main
    rw [i1, k]
    simp
  · rw [if_neg k] at main
    rw [main, Bool.not_eq_true _ |>.mp k]
    simp
theorem tLa_iff {L : List Lf} {S : List Int} {m : Int} {b c : Nat} {lb lc : Lf} (eb : L[b]? = some lb) (ec : L[c]? = some lc) : tLa L S m b c = true ↔ (alive lb m = true → alive lc m = true → apt (sv S b) (la lb m) (sv S c) (la lc m)) := by
  unfold tLa apt
  rw [lv_at eb, lv_at ec]
  by_cases a1 : alive lb m = true
  · by_cases a2 : alive lc m = true
    · simp [a1, a2]
    · simp [a2]
  · simp [a1]
theorem lplaced_ok {L : List Lf} (h : LL L) {S : List Int} (hS : GS L S) : p_u_law_placed [.d (livL L), .d (.list (S.map .int))] = .ok (.bool (plc L S)) := by
  rw [lplaced_raw h hS]
  congr 2
  refine plc_of ?_
  rw [List.all_eq_true]
  constructor
  · intro k b c lb lc lt eb ec m a1 a2
    have gb := h.g.all lb (mem_at eb)
    have f0 := gb.f0
    have x := h.e40 lb (mem_at eb)
    have am := of_decide_eq_true a1
    have k1 := k m.toNat (List.mem_range.mpr (by omega))
    rw [show ((m.toNat : Nat) : Int) = m by omega] at k1
    have k2 := List.all_eq_true.mp k1 c (List.mem_range.mpr (get_lt ec))
    have k3 := List.all_eq_true.mp k2 b (List.mem_range.mpr lt)
    have k4 := (tLa_iff ec eb).mp k3 a2 a1
    unfold apt at k4 ⊢
    omega
  · intro k m hm
    refine List.all_eq_true.mpr fun c hc => List.all_eq_true.mpr fun b hb => ?_
    have hc := List.mem_range.mp hc
    have hb := List.mem_range.mp hb
    obtain ⟨lc, ec⟩ := get_of (xs := L) hc
    obtain ⟨lb, eb⟩ := get_of (xs := L) (i := b) (by omega)
    refine (tLa_iff ec eb).mpr fun a2 a1 => ?_
    have := k b c lb lc hb eb ec m a1 a2
    unfold apt at this ⊢
    omega
end K70

set_option Elab.async false
set_option linter.all false
set_option maxRecDepth 100000
set_option maxHeartbeats 2000000
namespace K70
open PySem L2 Sm
/-! ### ends -/
def hd (l : Lf) : Int := (l.2[0]?).getD 0
theorem hd_at {l : Lf} (h : GL l) : l.2[0]? = some (hd l) := by
  obtain ⟨x, e⟩ := get_of (xs := l.2) (i := 0) (List.length_pos_iff.mpr h.ne)
  unfold hd
  rw [e]
  rfl
theorem hd_ix {l : Lf} (h : GL l) : atI (l.2.map PyData.int) 0 = some (.int (hd l)) := by
  have := atI_n (l.2.map PyData.int) 0
  rw [show ((0 : Nat) : Int) = 0 from rfl] at this
  rw [this, List.getElem?_map, hd_at h]
  rfl
theorem hd_nn {l : Lf} (h : GL l) : 0 ≤ hd l := h.nn _ (mem_at (hd_at h))
def ends (L : List Lf) (S : List Int) (n : Nat) : List Int := (List.range n).map fun b => sv S b + hd (lv L b)
theorem ends_step (L : List Lf) (S : List Int) (n : Nat) : ends L S (n + 1) = ends L S n ++ [sv S n + hd (lv L n)] := by
  unfold ends
  rw [List.range_succ, List.map_append]
  rfl
theorem lcGo_ix {g : PyData → List SV → Option (List SV)} {pt : List SV → R Bool} {pe : List SV → R PyData} {ρ : List SV} (h : Nat → PyData) :
    ∀ (xs : List PyData) (k : Nat), (∀ i x, xs[i]? = some x → ∃ ρ1, g x ρ = some ρ1 ∧ pt ρ1 = .ok true ∧ pe ρ1 = .ok (h (k + i))) → lcGo g pt pe ρ xs = .ok ((List.range xs.length).map fun i => h (k + i))
  | [], k, _ => rfl
  | x :: r, k, hs => by
    obtain ⟨ρ1, e1, e2, e3⟩ := hs 0 x rfl
    have ih := lcGo_ix h r (k + 1) fun i y hy => by
      have := hs (i + 1) y (by simpa using hy)
      rw [show k + 1 + i = k + (i + 1) by omega]
      exact this
    unfold lcGo
    simp only [e1, e2, e3]
    rw [ih, List.length_cons, List.range_succ_eq_map, List.map_cons, List.map_map, R.bind_ok]
    congr 2
    refine List.map_congr_left fun i _ => ?_
    show h (k + 1 + i) = h (k + (i + 1))
    rw [show k + 1 + i = k + (i + 1) by omega]
theorem endof_ok {L : List Lf} (h : LL L) {S : List Int} (hS : GS L S) (t : Bool) : p_end_of [blk L, .d (sqD t (S.map .int))] = .ok (.int (maxL (ends L S L.length))) := by
  rw [p_end_of, run2, q_end_of]
  have hw := wrong_good hS t
  have few := h.g.few
  have lc := lcGo_ix (g := gNames [3, 4]) (pt := pK true) (pe := (p2 fAdd (pV 4) (p2 fIx (pSeqOf (p2 fIx (pSeqOf (p2 fIx (pSeqOf (pFld 0 (pObj 0))) (pV 3))) (pK (.int 1)))) (pK (.int 0))))) (ρ := [blk L, .d (sqD t (S.map .int)), .d (.int (-1)), .un, .un]) (fun b => PyData.int (sv S b + hd (lv L b))) (enumD 0 (S.map .int)) 0 (by
    intro i x hx
    obtain ⟨y, h1, rfl⟩ := enu_get hx
    obtain ⟨n, h2, rfl⟩ := map_get h1
    have hi := get_lt h2
    obtain ⟨l, el⟩ := get_of (xs := L) (i := i) (by rw [← hS.len]; exact hi)
    have g := h.g.all l (mem_at el)
    have sq : sqOf (livT L) = .ok (true, L.map lifeD) := rfl
    have ns : n = sv S i := by unfold sv; rw [h2]; rfl
    refine ⟨[blk L, .d (sqD t (S.map .int)), .d (.int (-1)), .d (.int i), .d (.int n)], ?_, rfl, ?_⟩
    · simp
    · rw [Nat.zero_add, lv_at el, ns]
      unfold blk
      simp [sq, atI_n, el, lifeD, atI_1, hd_ix g])
  have e2 : ((List.range (enumD 0 (S.map PyData.int)).length).map fun i => PyData.int (sv S (0 + i) + hd (lv L (0 + i)))) = (ends L S L.length).map .int := by
    rw [enu_len, List.length_map, hS.len]
    unfold ends
    rw [List.map_map]
    refine List.map_congr_left fun i _ => ?_
    rw [Nat.zero_add]
    rfl
  rw [e2] at lc
  have ne : ends L S L.length ≠ [] := by
    unfold ends
    have := List.length_pos_iff.mpr h.ne
    intro e
    have := congrArg List.length e
    simp at this
    exact h.ne this
  have sm : S.length < 1000000 := by rw [hS.len]; omega
  unfold blk at *
  simp [List.replicate, hw, lc, enu_len, sm, ev_maxL ne]
theorem endof_x {L : List Lf} {x : PyData} {k : Int} (h : p_wrong_start [blk L, .d x] = .ok (.int k)) (hk : k ≠ -1) : p_end_of [blk L, .d x] = .exc 1 (.int k) := by
  rw [p_end_of, run2, q_end_of]
  unfold blk at *
  simp [List.replicate, h, hk]
theorem isp_x {L : List Lf} {x : PyData} {k : Int} (h : p_wrong_start [blk L, .d x] = .ok (.int k)) (hk : k ≠ -1) : p_is_placing [blk L, .d x] = .ok (.bool false) := by
  rw [p_is_placing, run2, q_is_placing]
  unfold blk at *
  simp [List.replicate, h, hk]
theorem aps_x {L : List Lf} {x : PyData} {k : Int} (h : p_wrong_start [blk L, .d x] = .ok (.int k)) (hk : k ≠ -1) : p_apart_pairs [blk L, .d x] = .ok (.bool false) := by
  rw [p_apart_pairs, run2, q_apart_pairs]
  unfold blk at *
  simp [List.replicate, h, hk]
theorem max_app (ns : List Int) (x : Int) (h : ∀ n ∈ ns, 0 ≤ n) (hx : 0 ≤ x) : max (if ns = [] then 0 else maxL ns) x = maxL (ns ++ [x]) := by
  cases ns with
  | nil => show max 0 x = x; omega
  | cons n r =>
    rw [if_neg (by simp)]
    show max (r.foldl max n) x = (r ++ [x]).foldl max n
    rw [List.foldl_append]
    rfl
theorem lend_ok {L : List Lf} (h : LL L) {S : List Int} (hS : GS L S) : p_u_law_end [.d (livL L), .d (.list (S.map .int))] = .ok (.int (maxL (ends L S L.length))) := by
  rw [p_u_law_end, run2, q_u_law_end]
  have few := h.g.few
  have sq : sqOf (livL L) = .ok (false, L.map lifeD) := rfl
  have svn : ∀ b, 0 ≤ sv S b := by
    intro b
    unfold sv
    cases e : S[b]? with
    | none => exact Int.le_refl _
    | some x => exact hS.nn x (mem_at e)
  obtain ⟨ρ', e, s3, rfl⟩ := for_all (g := gName1 3) (q := (qSet 2 (p2 fMax2 (pV 2) (p2 fAdd (p2 fIx (pSq 1) (pV 3)) (p2 fIx (pSeqOf (p2 fIx (pSeqOf (p2 fIx (pSq 0) (pV 3))) (pK (.int 1)))) (pK (.int 0))))))) (rngD 0 L.length)
    (fun i ρ => ∃ s3, ρ = [.d (livL L), .d (.list (S.map .int)), .d (.int (if ends L S i = [] then 0 else maxL (ends L S i))), s3]) [.d (livL L), .d (.list (S.map .int)), .d (.int 0), .un] ⟨_, rfl⟩ (by
      rintro i x ρ hx ⟨s3, rfl⟩
      obtain ⟨hi, rfl⟩ := rng_get hx
      obtain ⟨l, el⟩ := get_of hi
      have g := h.g.all l (mem_at el)
      have z := hS.sv el
      have en : ∀ n ∈ ends L S i, 0 ≤ n := by
        intro n hn
        unfold ends at hn
        obtain ⟨b, hb, rfl⟩ := List.mem_map.mp hn
        have hb := List.mem_range.mp hb
        obtain ⟨l2, el2⟩ := get_of (xs := L) (i := b) (by omega)
        rw [lv_at el2]
        have := hd_nn (h.g.all l2 (mem_at el2))
        have := svn b
        omega
      have h0 := hd_nn g
      have s0 := svn i
      have mx := max_app (ends L S i) (sv S i + hd l) en (by omega)
      rw [ends_step, lv_at el, if_neg (by simp : ¬ (ends L S i ++ [sv S i + hd l] = [])), ← mx]
      generalize (if ends L S i = [] then 0 else maxL (ends L S i)) = w
      rw [Int.zero_add]
      simp [sq, atI_n, el, lifeD, atI_1, hd_ix g, z])
  rw [rng_len] at e
  have ne : ends L S L.length ≠ [] := by
    unfold ends
    intro e
    have := congrArg List.length e
    simp at this
    exact h.ne this
  rw [if_neg ne] at e
  simp [List.replicate, sq, rgK1_n (show L.length ≤ 1000000 by omega)]
  rw [e]
  simp
/-! ### what is asked of starts -/
theorem lstart_ok {L : List Lf} (h : LL L) {S : List Int} (hS : GS L S) : p_u_law_started [blk L, .d (livL L), .d (.list (S.map .int))] = .ok (.bool true) := by
  rw [p_u_law_started, run3, q_u_law_started]
  have e1 := lplaced_ok h hS
  have f1 := isp_ok h hS
  have f2 := aps_ok h hS
  have f3 := endof_ok h hS
  have f4 := lend_ok h hS
  obtain ⟨ρ', e, _⟩ := for_all (g := gName1 4) (q := (qSeq (qSet 5 (p2 fIx (pSeqOf (pList (pLst (pCons (pD (pList (p1 fList (pSq 2)))) (pCons (pD (p1 fTuple (pSq 2))) pNil))))) (pV 4)))
  (qSeq (qSet 6 (pCall p_is_placing (pCons (pArg 0) (pCons (pArg 5) pNil))))
  (qSeq (qSet 7 (pCall p_apart_pairs (pCons (pArg 0) (pCons (pArg 5) pNil))))
  (qSeq (qIf (pOrT (pNotT (pTest (p1 (fIsi "bool") (pRaw 6)))) (pOrT (pTest (p2 fNe (pRaw 6) (pRaw 3))) (pOrT (pNotT (pTest (p1 (fIsi "bool") (pRaw 7)))) (pTest (p2 fNe (pRaw 7) (pRaw 3)))))) (qRet (pK (.bool false))) qNext)
  (qIf (pTest (p2 fNe (pCall p_end_of (pCons (pArg 0) (pCons (pArg 5) pNil))) (pCall p_u_law_end (pCons (pArg 1) (pCons (pArg 2) pNil))))) (qRet (pK (.bool false))) qNext)))))) (rngD 0 2)
    (fun _ ρ => ∃ s4 s5 s6 s7, ρ = [blk L, .d (livL L), .d (.list (S.map .int)), .d (.bool (plc L S)), s4, s5, s6, s7]) [blk L, .d (livL L), .d (.list (S.map .int)), .d (.bool (plc L S)), .un, .un, .un, .un] ⟨_, _, _, _, rfl⟩ (by
      rintro i x ρ hx ⟨s4, s5, s6, s7, rfl⟩
      obtain ⟨hi, rfl⟩ := rng_get hx
      have t0 := f1 false
      have t1 := f1 true
      have u0 := f2 false
      have u1 := f2 true
      have v0 := f3 false
      have v1 := f3 true
      unfold blk at *
      match i, hi with
      | 0, _ => simp [sqD, atI_0] at t0 u0 v0 ⊢; simp [t0, u0, v0, f4]
      | 1, _ => simp [sqD, atI_1] at t1 u1 v1 ⊢; simp [t1, u1, v1, f4])
  have go : ∀ z, forGo (gName1 4) (qSeq (qSet 5 (p2 fIx (pSeqOf (pList (pLst (pCons (pD (pList (p1 fList (pSq 2)))) (pCons (pD (p1 fTuple (pSq 2))) pNil))))) (pV 4)))
  (qSeq (qSet 6 (pCall p_is_placing (pCons (pArg 0) (pCons (pArg 5) pNil))))
  (qSeq (qSet 7 (pCall p_apart_pairs (pCons (pArg 0) (pCons (pArg 5) pNil))))
  (qSeq (qIf (pOrT (pNotT (pTest (p1 (fIsi "bool") (pRaw 6)))) (pOrT (pTest (p2 fNe (pRaw 6) (pRaw 3))) (pOrT (pNotT (pTest (p1 (fIsi "bool") (pRaw 7)))) (pTest (p2 fNe (pRaw 7) (pRaw 3)))))) (qRet (pK (.bool false))) qNext)
  (qIf (pTest (p2 fNe (pCall p_end_of (pCons (pArg 0) (pCons (pArg 5) pNil))) (pCall p_u_law_end (pCons (pArg 1) (pCons (pArg 2) pNil))))) (qRet (pK (.bool false))) qNext))))) (rngD 0 2) [blk L, .d (livL L), .d (.list (S.map .int)), .d (.bool (plc L S)), .un, .un, .un, .un] = .nx z → sqK (qRet (pK (.bool true))) (forGo (gName1 4) (qSeq (qSet 5 (p2 fIx (pSeqOf (pList (pLst (pCons (pD (pList (p1 fList (pSq 2)))) (pCons (pD (p1 fTuple (pSq 2))) pNil))))) (pV 4)))
  (qSeq (qSet 6 (pCall p_is_placing (pCons (pArg 0) (pCons (pArg 5) pNil))))
  (qSeq (qSet 7 (pCall p_apart_pairs (pCons (pArg 0) (pCons (pArg 5) pNil))))
  (qSeq (qIf (pOrT (pNotT (pTest (p1 (fIsi "bool") (pRaw 6)))) (pOrT (pTest (p2 fNe (pRaw 6) (pRaw 3))) (pOrT (pNotT (pTest (p1 (fIsi "bool") (pRaw 7)))) (pTest (p2 fNe (pRaw 7) (pRaw 3)))))) (qRet (pK (.bool false))) qNext)
  (qIf (pTest (p2 fNe (pCall p_end_of (pCons (pArg 0) (pCons (pArg 5) pNil))) (pCall p_u_law_end (pCons (pArg 1) (pCons (pArg 2) pNil))))) (qRet (pK (.bool false))) qNext))))) (rngD 0 2) [blk L, .d (livL L), .d (.list (S.map .int)), .d (.bool (plc L S)), .un, .un, .un, .un]) = .rt (.bool true) := by
    intro z hz
    rw [hz]
    rfl
  have r := go _ e
  unfold blk at *
  simp [List.replicate, e1] at r ⊢
  rw [r]
  simp
end K70

set_option Elab.async false
set_option linter.all false
set_option maxRecDepth 100000
set_option maxHeartbeats 2000000
namespace K70
open PySem L2 Sm
theorem num0 {L : List Lf} {x y : PyData} {z : PyData} (h : p_m_meeting [blk L, .d x, .d y] = .exc 0 z) : p_u_law_number [blk L, .d (.int 0), .d x, .d y] = .ok z := by
  rw [p_u_law_number, run4, q_u_law_number]
  unfold blk at *
  simp [List.replicate, h]
theorem num1 {L : List Lf} {x y : PyData} {z : PyData} (h : p_m_len_pair [blk L, .d x, .d y] = .exc 0 z) : p_u_law_number [blk L, .d (.int 1), .d x, .d y] = .ok z := by
  rw [p_u_law_number, run4, q_u_law_number]
  unfold blk at *
  simp [List.replicate, h]
theorem num2 {L : List Lf} {x y : PyData} {z : PyData} (h : p_m_length_then [blk L, .d x, .d y] = .exc 0 z) : p_u_law_number [blk L, .d (.int 2), .d x, .d y] = .ok z := by
  rw [p_u_law_number, run4, q_u_law_number]
  unfold blk at *
  simp [List.replicate, h]
theorem value_x {x : PyData} {k : Int} (h : p_m_uinit [.d x] = .exc 1 (.int k)) : p_u_law_value [.d x] = .ok (.int k) := by
  rw [p_u_law_value, run1, q_u_law_value]
  have e : (p_m_uinit [.d x]).lfs = .exc 1 (.int k) := by rw [h]; rfl
  simp [List.replicate, e]
theorem nopair_x {L : List Lf} {x y : PyData} (h : p_m_len_pair [blk L, .d x, .d y] = .exc 1 (.int 0)) : p_u_law_no_pair [blk L, .d x, .d y] = .ok (.bool true) := by
  rw [p_u_law_no_pair, run3, q_u_law_no_pair]
  unfold blk at *
  simp [List.replicate, h]
theorem dpt_ints (n : Nat) (ns : List Int) : dptAll n (ns.map .int) = true := dptAll_of fun x hx => by
  obtain ⟨i, _, rfl⟩ := List.mem_map.mp hx
  cases n <;> simp only [dpt]
theorem dpt_life (l : Lf) : dpt 2 (lifeD l) = true := by
  unfold lifeD
  simp only [dpt, dptAll, dpt_ints, Bool.and_true]
theorem dpt_livT (L : List Lf) : dpt 3 (livT L) = true := by
  unfold livT
  simp only [dpt]
  refine dptAll_of fun x hx => ?_
  obtain ⟨l, _, rfl⟩ := List.mem_map.mp hx
  exact dpt_life l
theorem dpt_pr (b : Int × Int) : dpt 1 (prD b) = true := by
  unfold prD
  simp only [dpt, dptAll, Bool.and_true]
theorem dpt_prs (P : List (Nat × Nat)) : dpt 2 (.tuple (P.map pD2)) = true := by
  simp only [dpt]
  refine dptAll_of fun x hx => ?_
  obtain ⟨l, _, rfl⟩ := List.mem_map.mp hx
  unfold pD2
  simp only [dpt, dptAll, Bool.and_true]
theorem dpt_str {x : Str} (h : PySem.PyData.strOk x = true) : dpt 0 (.str x) = true := by simp only [dpt, h]
theorem ok_moment : PySem.PyData.strOk "moment" = true := by decide +kernel
theorem ok_b : PySem.PyData.strOk "b" = true := by decide +kernel
theorem ok_c : PySem.PyData.strOk "c" = true := by decide +kernel
def qL1 : List SV → Fl := (qSeq (qSet 6 (pCall p_u_law_meeting (pCons (pArg 1) (pCons (pArg 4) (pCons (pArg 5) pNil)))))
  (qSeq (qIf (pTest (p2 fNe (pMeth p_m_meeting (pObj 0) (pCons (pArg 4) (pCons (pArg 5) pNil))) (pRaw 6))) (qRet (pK (.bool false))) qNext)
  (qSeq (qIf (pAndT (pTest (p2 fGe (pV 6) (pK (.int 0)))) (pTest (p2 fLt (pV 4) (pV 5)))) (qApp 3 (pTup (pCons (pArg 4) (pCons (pArg 5) pNil)))) qNext)
  (qSeq (qIf (pAndT (pTest (p2 fGe (pV 6) (pK (.int 0)))) (pTest (p2 fNe (pMeth p_m_len_pair (pObj 0) (pCons (pArg 4) (pCons (pArg 5) pNil))) (pCall p_u_law_length (pCons (pD (p2 fIx (pSq 1) (pV 4))) (pCons (pArg 6) pNil)))))) (qRet (pK (.bool false))) qNext)
  (qIf (pAndT (pTest (p2 fLt (pV 6) (pK (.int 0)))) (pNotT (pTest (pCall p_u_law_no_pair (pCons (pArg 0) (pCons (pArg 4) (pCons (pArg 5) pNil))))))) (qRet (pK (.bool false))) qNext)))))
def stL (L : List Lf) (P : List (Nat × Nat)) (b : Nat) (s5 s6 s7 : SV) : List SV := [blk L, .d (livL L), .d (.int L.length), .own (P.map pD2), nD b, s5, s6, s7]
theorem looked_c {L : List Lf} (h : LL L) {b c : Nat} {lb lc : Lf} (eb : L[b]? = some lb) (ec : L[c]? = some lc) (s5 s6 s7 : SV) :
    ∃ s6' , fTurn (gName1 5) qL1 (.int (c : Int)) (stL L (prs L b ++ row L b c) b s5 s6 s7) = .nx (stL L (prs L b ++ row L b (c + 1)) b (nD c) s6' s7) := by
  have gb := h.g.all lb (mem_at eb)
  have gc := h.g.all lc (mem_at ec)
  have m1 := lmeet_ok eb ec gb gc (h.e40 lb (mem_at eb))
  have m2 := meeting_ok eb ec
  have rm := pair_room h.g.few (b := b) (k := c) (by have := get_lt eb; have := h.g.few; omega) (by have := get_lt ec; have := h.g.few; omega)
  have sq : sqOf (livL L) = .ok (false, L.map lifeD) := rfl
  rw [row_step, pairB_eq eb ec]
  by_cases p : b = c ∨ fm lb lc = -1
  · have e1 : (if b = c then (-1 : Int) else fm lb lc) = -1 := by rcases p with p | p <;> simp [p]
    rw [e1] at m1 m2
    have np := nopair_x (L := L) (lenp_no eb ec p)
    have cnd : ¬ ((decide (b < c) && decide (0 ≤ fm lb lc)) = true) := by
      rw [Bool.and_eq_true, decide_eq_true_eq, decide_eq_true_eq]
      omega
    rw [if_neg cnd, List.append_nil]
    refine ⟨.d (.int (-1)), ?_⟩
    unfold stL nD blk at *
    unfold qL1
    simp [m1, m2, np]
  · have p1 : b ≠ c := fun e => p (.inl e)
    have p2 : fm lb lc ≠ -1 := fun e => p (.inr e)
    have f0 : 0 ≤ fm lb lc := by have := fm_pos p2; have := gb.f0; omega
    have nf0 : ¬ fm lb lc < 0 := by omega
    rw [if_neg p1] at m1 m2
    have l1 := lenp_ok eb ec p1 p2
    have l2 := llen_ok lb (fm lb lc)
    refine ⟨.d (.int (fm lb lc)), ?_⟩
    by_cases q : b < c
    · have cnd : (decide (b < c) && decide (0 ≤ fm lb lc)) = true := by
        rw [Bool.and_eq_true, decide_eq_true_eq, decide_eq_true_eq]
        exact ⟨q, f0⟩
      rw [if_pos cnd]
      unfold stL nD blk at *
      unfold qL1
      simp [m1, m2, f0, nf0, q, l1, l2, sq, atI_n, eb, rm, pD2]
    · have cnd : ¬ ((decide (b < c) && decide (0 ≤ fm lb lc)) = true) := by
        rw [Bool.and_eq_true, decide_eq_true_eq, decide_eq_true_eq]
        exact fun k => q k.1
      rw [if_neg cnd, List.append_nil]
      unfold stL nD blk at *
      unfold qL1
      simp [m1, m2, f0, nf0, q, l1, l2, sq, atI_n, eb]
def qL2 : List SV → Fl := (qSeq (qSet 7 (pCall p_u_law_length (pCons (pD (p2 fIx (pSq 1) (pV 4))) (pCons (pArg 6) pNil))))
  (qSeq (qIf (pAndT (pTest (p2 fGe (pV 7) (pK (.int 0)))) (pTest (p2 fNe (pMeth p_m_length_then (pObj 0) (pCons (pArg 4) (pCons (pArg 6) pNil))) (pRaw 7)))) (qRet (pK (.bool false))) qNext)
  (qIf (pAndT (pTest (p2 fLt (pV 7) (pK (.int 0)))) (pTest (p2 fNe (pCall p_u_law_number (pCons (pArg 0) (pCons (pD (pK (.int 2))) (pCons (pArg 4) (pCons (pArg 6) pNil))))) (pK (.str "moment"))))) (qRet (pK (.bool false))) qNext)))
theorem looked_m {L : List Lf} (h : LL L) {b : Nat} {lb : Lf} (eb : L[b]? = some lb) (P : List (Nat × Nat)) (m : Nat) (s5 s6 s7 : SV) :
    ∃ s7', fTurn (gName1 6) qL2 (.int (m : Int)) (stL L P b s5 s6 s7) = .nx (stL L P b s5 (nD m) s7') := by
  have gb := h.g.all lb (mem_at eb)
  have l2 := llen_ok lb m
  have sq : sqOf (livL L) = .ok (false, L.map lifeD) := rfl
  by_cases a : lb.1 ≤ (m : Int) ∧ (m : Int) < lb.1 + lb.2.length
  · have l1 := then_ok eb a.1 a.2
    have a0 := la_nn gb (m := m) (decide_eq_true a)
    have na0 : ¬ la lb m < 0 := by omega
    refine ⟨.d (.int (la lb m)), ?_⟩
    unfold stL nD blk at *
    unfold qL2
    simp [sq, atI_n, eb, l1, l2, a0, na0]
  · have l1 := num2 (L := L) (then_m eb a)
    have a0 := la_out a
    rw [a0] at l2
    have fe : fNe (.str "moment") (.str "moment") = some (.bool false) := fNe_same (n := 0) (by omega) (dpt_str ok_moment)
    refine ⟨.d (.int (-1)), ?_⟩
    unfold stL nD blk at *
    unfold qL2
    simp [sq, atI_n, eb, l1, l2, fe]
theorem looked_ok {L : List Lf} (h : LL L) : p_u_law_looked [blk L, .d (livL L)] = .ok (.bool true) := by
  rw [p_u_law_looked, run2, q_u_law_looked]
  have few := h.g.few
  have sq : sqOf (livL L) = .ok (false, L.map lifeD) := rfl
  have n1 : fNe (livT L) (.tuple (L.map lifeD)) = some (.bool false) := fNe_same (n := 3) (by omega) (dpt_livT L)
  have hv1 := heavy_ok h.g.few
  have hv2 := lheavy_ok h.g.all
  rw [heavy_same h.g (fun l hl => by have := h.e40 l hl; have := List.length_pos_iff.mpr (h.g.all l hl).ne; omega)] at hv2
  have n2 : fNe (prD (hv (tot L) (L.map (·.1)))) (prD (hv (tot L) (L.map (·.1)))) = some (.bool false) := fNe_same (n := 1) (by omega) (dpt_pr _)
  obtain ⟨ρ', e, s4, s5, s6, s7, rfl⟩ := for_all (g := gName1 4) (q := (qSeq (qFor (iRg1 (pV 2)) (gName1 5) qL1)
    (qFor (iRg1 (p2 fAdd (p2 fAdd (p2 fIx (pSeqOf (p2 fIx (pSq 1) (pV 4))) (pK (.int 0))) (p1 fLen (pSeqOf (p2 fIx (pSeqOf (p2 fIx (pSq 1) (pV 4))) (pK (.int 1)))))) (pK (.int 2)))) (gName1 6) qL2))) (rngD 0 L.length)
    (fun b ρ => ∃ s4 s5 s6 s7, ρ = [blk L, .d (livL L), .d (.int L.length), .own ((prs L b).map pD2), s4, s5, s6, s7]) [blk L, .d (livL L), .d (.int L.length), .own [], .un, .un, .un, .un] ⟨_, _, _, _, rfl⟩ (by
      rintro b x ρ hx ⟨s4, s5, s6, s7, rfl⟩
      obtain ⟨hb, rfl⟩ := rng_get hx
      obtain ⟨lb, eb⟩ := get_of hb
      have gb := h.g.all lb (mem_at eb)
      have f0 := gb.f0
      have e40 := h.e40 lb (mem_at eb)
      rw [Int.zero_add]
      obtain ⟨ρ1, k1, t5, t6, t7, rfl⟩ := for_all (g := gName1 5) (q := qL1) (rngD 0 L.length) (fun c ρ => ∃ s5 s6 s7, ρ = stL L (prs L b ++ row L b c) b s5 s6 s7) (stL L (prs L b) b s5 s6 s7) ⟨s5, s6, s7, by rw [row_low L b 0 (by omega), List.append_nil]⟩ (by
        rintro c x ρ hx ⟨s5, s6, s7, rfl⟩
        obtain ⟨hc, rfl⟩ := rng_get hx
        obtain ⟨lc, ec⟩ := get_of hc
        rw [Int.zero_add]
        obtain ⟨s6', k⟩ := looked_c h eb ec s5 s6 s7
        exact ⟨_, k, _, _, _, rfl⟩)
      rw [rng_len, ← prs_step] at k1
      obtain ⟨ρ2, k2, u6, u7, rfl⟩ := for_all (g := gName1 6) (q := qL2) (rngD 0 (lb.1 + lb.2.length + 2).toNat) (fun m ρ => ∃ s6 s7, ρ = stL L (prs L (b + 1)) b t5 s6 s7) (stL L (prs L (b + 1)) b t5 t6 t7) ⟨_, _, rfl⟩ (by
        rintro m x ρ hx ⟨s6, s7, rfl⟩
        obtain ⟨hm, rfl⟩ := rng_get hx
        rw [Int.zero_add]
        obtain ⟨s7', k⟩ := looked_m h eb (prs L (b + 1)) m t5 s6 s7
        exact ⟨_, k, _, _, rfl⟩)
      have r1 := rgK1_n (show L.length ≤ 1000000 by omega)
      have r2 := rgK1_i (i := lb.1 + lb.2.length + 2) (by omega) (by omega)
      refine ⟨stL L (prs L (b + 1)) b t5 u6 u7, ?_, _, _, _, _, rfl⟩
      unfold stL at *
      unfold nD blk at *
      simp [r1, k1, sq, atI_n, eb, lifeD, atI_0, atI_1, r2, k2])
  rw [rng_len] at e
  have r1 := rgK1_n (show L.length ≤ 1000000 by omega)
  have pr := pairs_ok h.g.few
  have n3 : fEq (.tuple ((prs L L.length).map pD2)) (.tuple ((prs L L.length).map pD2)) = some (.bool true) := fEq_same (n := 2) (by omega) (dpt_prs _)
  unfold qL1 qL2 at e
  unfold blk at *
  simp [List.replicate, sq, n1, hv1, hv2, n2, r1]
  rw [e]
  simp [pr, n3]
end K70

set_option Elab.async false
set_option linter.all false
set_option maxRecDepth 100000
set_option maxHeartbeats 2000000
namespace K70
open PySem L2 Sm
theorem addL {xs ys : List PyData} (h : xs.length + ys.length ≤ 1000) : fAdd (.list xs) (.list ys) = some (.list (xs ++ ys)) := by
  rw [ev_addL, if_pos (by omega)]
theorem cut_last (xs : List PyData) : fCut xs none (some (-1)) = xs.dropLast := by
  unfold fCut
  rw [HT.sIx_none]
  have : HT.sIx xs.length xs.length (some (-1)) = xs.length - 1 := by
    show (if (-1 : Int) < 0 then ((-1 : Int) + (xs.length : Int)).toNat else min (-1 : Int).toNat xs.length) = _
    rw [if_pos (show (-1 : Int) < 0 by decide)]
    omega
  rw [this, List.drop_zero, Nat.sub_zero, List.dropLast_eq_take]
theorem cut_one (xs : List PyData) (h : xs ≠ []) : fCut xs (some 1) none = xs.drop 1 := by
  unfold fCut
  rw [HT.sIx_none]
  have : HT.sIx xs.length 0 (some 1) = 1 := by
    have := HT.sIx_nat xs.length 0 1
    rw [show ((1 : Nat) : Int) = 1 from rfl] at this
    rw [this]
    have := List.length_pos_iff.mpr h
    omega
  rw [this]
  exact List.take_of_length_le (by rw [List.length_drop]; exact Nat.le_refl _)
def gR : PyData → List SV → Option (List SV) := gName1 4
def qR : List SV → Fl := (qSeq (qSet 5 (p1 fNeg (pK (.int 1))))
  (qSeq (qTry 1 6 5 (qDrop (pCall p_end_of (pCons (pArg 0) (pCons (pD (p2 fIx (pSq 4) (pK (.int 0)))) pNil)))))
  (qIf (pOrT (pTest (p2 fNe (pRaw 5) (p2 fIx (pSq 4) (pK (.int 1))))) (pOrT (pTest (p2 fNotB (pCall p_is_placing (pCons (pArg 0) (pCons (pD (p2 fIx (pSq 4) (pK (.int 0)))) pNil))) (pK (.bool false)))) (pTest (p2 fNotB (pCall p_apart_pairs (pCons (pArg 0) (pCons (pD (p2 fIx (pSq 4) (pK (.int 0)))) pNil))) (pK (.bool false)))))) (qRet (pK (.bool false))) qNext)))
theorem row_turn {L : List Lf} {x a1 a2 a3 : PyData} {k : Int} (h : p_wrong_start [blk L, .d x] = .ok (.int k)) (hk : k ≠ -1) (s4 s5 s6 : SV) :
    fTurn gR qR (.tuple [x, .int k]) [blk L, .d a1, .d a2, .d a3, s4, s5, s6] = .nx [blk L, .d a1, .d a2, .d a3, .d (.tuple [x, .int k]), .d (.int k), .un] := by
  have e1 := endof_x h hk
  have e2 := isp_x h hk
  have e3 := aps_x h hk
  unfold gR qR
  unfold blk at *
  simp [atI_0, atI_1, e1, e2, e3]
theorem wrongs_gen {L : List Lf} {M D T : List PyData}
  (w1 : p_wrong_start [blk L, .d (.int 7)] = .ok (.int 0))
  (w2 : p_wrong_start [blk L, .d (.list D)] = .ok (.int ((M.length : Int) - 1)))
  (w3 : p_wrong_start [blk L, .d (.list (M ++ [.int 0]))] = .ok (.int M.length))
  (w4 : p_wrong_start [blk L, .d (.list (.int (-1) :: T))] = .ok (.int 0))
  (w5 : p_wrong_start [blk L, .d (.list (.bool true :: T))] = .ok (.int 0))
  (w6 : p_wrong_start [blk L, .d (.list (D ++ [.none]))] = .ok (.int ((M.length : Int) - 1)))
  (a1 : fAdd (.list M) (.list [.int 0]) = some (.list (M ++ [.int 0])))
  (a2 : fAdd (.list [.int (-1)]) (.list T) = some (.list (.int (-1) :: T)))
  (a3 : fAdd (.list [.bool true]) (.list T) = some (.list (.bool true :: T)))
  (a4 : fAdd (.list D) (.list [.none]) = some (.list (D ++ [.none])))
  (c1 : fSlL (false, M) none (some (-1)) = some D)
  (c2 : fSlL (false, M) (some 1) none = some T) (hM : 1 ≤ M.length) : p_u_law_wrong_starts [blk L, .d (.list M)] = .ok (.bool true) := by
  rw [p_u_law_wrong_starts, run2, q_u_law_wrong_starts]
  have fin : ∀ (rows : PyData) (s4 s5 s6 : SV), ∃ ρ', forGo gR qR [.tuple [.int 7, .int 0], .tuple [.list D, .int ((M.length : Int) - 1)], .tuple [.list (M ++ [.int 0]), .int M.length], .tuple [.list (.int (-1) :: T), .int 0], .tuple [.list (.bool true :: T), .int 0], .tuple [.list (D ++ [.none]), .int ((M.length : Int) - 1)]]
      [blk L, .d (.list M), .d (.int M.length), .d rows, s4, s5, s6] = .nx ρ' := by
    intro rows s4 s5 s6
    rw [forGo_nx (row_turn w1 (by omega) _ _ _), forGo_nx (row_turn w2 (by omega) _ _ _), forGo_nx (row_turn w3 (by omega) _ _ _), forGo_nx (row_turn w4 (by omega) _ _ _), forGo_nx (row_turn w5 (by omega) _ _ _), forGo_nx (row_turn w6 (by omega) _ _ _)]
    exact ⟨_, rfl⟩
  unfold gR qR at fin
  obtain ⟨ρ', e⟩ := fin (.list [.tuple [.int 7, .int 0], .tuple [.list D, .int ((M.length : Int) - 1)], .tuple [.list (M ++ [.int 0]), .int M.length], .tuple [.list (.int (-1) :: T), .int 0], .tuple [.list (.bool true :: T), .int 0], .tuple [.list (D ++ [.none]), .int ((M.length : Int) - 1)]]) .un .un .un
  simp [List.replicate, a1, a2, a3, a4, c1, c2]
  rw [e]
  simp
theorem wrongs_ok {L : List Lf} (h : LL L) {S : List Int} (hS : GS L S) : p_u_law_wrong_starts [blk L, .d (.list (S.map .int))] = .ok (.bool true) := by
  have few := h.g.few
  have pos := List.length_pos_iff.mpr h.ne
  have len := hS.len
  have Sne : S ≠ [] := by rintro rfl; simp at len; omega
  have dl : S.dropLast.length = S.length - 1 := List.length_dropLast
  have nnd : ∀ s ∈ S.dropLast, 0 ≤ s := fun s hs => hS.nn s (List.dropLast_subset S hs)
  have w1 : p_wrong_start [blk L, .d (.int 7)] = .ok (.int 0) := wrong_no 7
  have w2 : p_wrong_start [blk L, .d (.list (S.dropLast.map .int))] = .ok (.int ((S.length : Int) - 1)) := by
    have := wrong_len (L := L) nnd (by omega) false
    rw [if_neg (by omega)] at this
    rw [show ((S.length : Int) - 1) = ((S.dropLast.length : Nat) : Int) by omega]
    exact this
  have w3 : p_wrong_start [blk L, .d (.list (S.map .int ++ [.int 0]))] = .ok (.int S.length) := wrong_at (L := L) hS.nn (by omega) false (.inl len)
  have w4 : p_wrong_start [blk L, .d (.list (.int (-1) :: (S.map PyData.int).drop 1))] = .ok (.int 0) := wrong_at (L := L) (S := []) (fun s hs => by cases hs) (by simp) false (.inr (.inr ⟨-1, rfl, by omega⟩))
  have w5 : p_wrong_start [blk L, .d (.list (.bool true :: (S.map PyData.int).drop 1))] = .ok (.int 0) := wrong_at (L := L) (S := []) (fun s hs => by cases hs) (by simp) false (.inr (.inl (whole_b true)))
  have w6 : p_wrong_start [blk L, .d (.list (S.dropLast.map .int ++ [.none]))] = .ok (.int ((S.length : Int) - 1)) := by
    have := wrong_at (L := L) (y := .none) (rest := []) nnd (by omega) false (.inr (.inl whole_n))
    rw [show ((S.length : Int) - 1) = ((S.dropLast.length : Nat) : Int) by omega]
    exact this
  have a1 : fAdd (.list (S.map .int)) (.list [.int 0]) = some (.list (S.map .int ++ [.int 0])) := addL (by simp; omega)
  have a2 : fAdd (.list [.int (-1)]) (.list ((S.map PyData.int).drop 1)) = some (.list ([.int (-1)] ++ (S.map PyData.int).drop 1)) := addL (by simp; omega)
  have a3 : fAdd (.list [.bool true]) (.list ((S.map PyData.int).drop 1)) = some (.list ([.bool true] ++ (S.map PyData.int).drop 1)) := addL (by simp; omega)
  have a4 : fAdd (.list (S.dropLast.map .int)) (.list [.none]) = some (.list (S.dropLast.map .int ++ [.none])) := addL (by simp; omega)
  have c1 : fSlL (false, S.map .int) none (some (-1)) = some (S.dropLast.map .int) := by
    show (if false = true then none else some (fCut (S.map .int) none (some (-1)))) = _
    rw [if_neg (by simp), cut_last, List.map_dropLast]
  have c2 : fSlL (false, S.map .int) (some 1) none = some ((S.map PyData.int).drop 1) := by
    show (if false = true then none else some (fCut (S.map .int) (some 1) none)) = _
    rw [if_neg (by simp), cut_one _ (by simpa using Sne)]
  refine wrongs_gen w1 ?_ ?_ w4 w5 ?_ a1 a2 a3 a4 c1 c2 (by rw [List.length_map]; omega)
  · rw [List.length_map]; exact w2
  · rw [List.length_map]; exact w3
  · rw [List.length_map]; exact w6
end K70

set_option Elab.async false
set_option linter.all false
set_option maxRecDepth 100000
set_option maxHeartbeats 2000000
namespace K70
open PySem L2 Sm
def gV : PyData → List SV → Option (List SV) := gName1 5
def qV : List SV → Fl := (qIf (pTest (p2 fNe (pCall p_u_law_value (pCons (pD (p2 fIx (pSq 5) (pK (.int 0)))) pNil)) (p2 fIx (pSq 5) (pK (.int 1))))) (qRet (pK (.bool false))) qNext)
theorem val_turn {x : PyData} {k : Int} (h : p_u_law_value [.d x] = .ok (.int k)) (s0 s1 s2 s3 s4 s5 s6 : SV) :
    fTurn gV qV (.tuple [x, .int k]) [s0, s1, s2, s3, s4, s5, s6] = .nx [s0, s1, s2, s3, s4, .d (.tuple [x, .int k]), s6] := by
  unfold gV qV
  simp [atI_0, atI_1, h]
theorem refus_gen {M : List PyData} {la : Int} {y : PyData} {x14 x15 : List PyData} {x16 : List PyData} {fs : List PyData}
  (hlast : atI M (-1) = some (.tuple [.int la, y]))
  (v1 : p_u_law_value [.d (.int 7)] = .ok (.int 0))
  (v2 : p_u_law_value [.d (.list [])] = .ok (.int 0))
  (v3 : p_u_law_value [.d (.list (M ++ [.tuple [.int (la - 1), .tuple [.int 1]]]))] = .ok (.int M.length))
  (v4 : p_u_law_value [.d (.list (M ++ [.tuple [.int la, .tuple [.int 1, .int 2]]]))] = .ok (.int M.length))
  (v5 : p_u_law_value [.d (.list (M ++ [.tuple [.int la, .tuple []]]))] = .ok (.int M.length))
  (v6 : p_u_law_value [.d (.list (M ++ [.tuple [.int la, .tuple [.int (-1)]]]))] = .ok (.int M.length))
  (v7 : p_u_law_value [.d (.list (M ++ [.tuple [.int la, .tuple [.int 1, .bool true]]]))] = .ok (.int M.length))
  (v8 : p_u_law_value [.d (.list (M ++ [.tuple [.bool true, .tuple [.int 1]]]))] = .ok (.int M.length))
  (v9 : p_u_law_value [.d (.list (M ++ [.tuple [.int la, .tuple [.int 1], .int 0]]))] = .ok (.int M.length))
  (v10 : p_u_law_value [.d (.list (.tuple [.int (-1), .tuple [.int 1]] :: M))] = .ok (.int 0))
  (v11 : p_u_law_value [.d (.list (M ++ [.int 5]))] = .ok (.int M.length))
  (v12 : p_u_law_value [.d (.list (M ++ [.tuple [.int la, .int 5]]))] = .ok (.int M.length))
  (v13 : p_u_law_value [.d (.list (M ++ [.tuple [.int la, .tuple [.int 2, .int 1, .int 2]], .int 5]))] = .ok (.int M.length))
  (v14 : p_u_law_value [.d (.list x14)] = .ok (.int 24))
  (v15 : p_u_law_value [.d (.list (x15 ++ [.int 5]))] = .ok (.int 24))
  (a : ∀ y, fAdd (.list M) (.list [y]) = some (.list (M ++ [y])))
  (a' : ∀ y, fAdd (.list [y]) (.list M) = some (.list (y :: M)))
  (a2 : ∀ y z, fAdd (.list (M ++ [y])) (.list [z]) = some (.list (M ++ [y, z])))
  (a3 : fAdd (.list x15) (.list [.int 5]) = some (.list (x15 ++ [.int 5])))
  (l14 : ∀ ρ : List SV, 4 < ρ.length → lcGo (gName1 4) (pK true) (pTup (pCons (pD (pK (.int 0))) (pCons (pD (pTup (pCons (pD (pK (.int 1))) pNil))) pNil))) ρ (rngD 0 25) = .ok x14)
  (l15 : ∀ ρ : List SV, 4 < ρ.length → lcGo (gName1 4) (pK true) (pTup (pCons (pArg 4) (pCons (pD (pTup (pCons (pArg 4) pNil))) pNil))) ρ (rngD 0 24) = .ok x15)
  (l16 : ∀ ρ : List SV, 6 < ρ.length → lcGo (gName1 6) (pK true) (pList (pLst (pCons (pArg 6) (pCons (pD (pList (pLst (pCons (pD (pK (.int 2))) (pCons (pD (pK (.int 1))) pNil))))) pNil)))) ρ (rngD 0 24) = .ok x16)
  (mk : (p_m_uinit [.d (.list x16)]).lfs = .ok fs) (hf : fs[1]? = some (.int 24)) : p_u_law_refusals [.d (.list M)] = .ok (.bool true) := by
  rw [p_u_law_refusals, run1, q_u_law_refusals]
  have r43 : ∀ a b c d e f g : PyData, fAdd (.list [a, b, c, d]) (.list [e, f, g]) = some (.list [a, b, c, d, e, f, g]) := fun _ _ _ _ _ _ _ => addL (by simp)
  have r73 : ∀ a b c d e f g x y z : PyData, fAdd (.list [a, b, c, d, e, f, g]) (.list [x, y, z]) = some (.list [a, b, c, d, e, f, g, x, y, z]) := fun _ _ _ _ _ _ _ _ _ _ => addL (by simp)
  have r103 : ∀ a b c d e f g x y z p q r : PyData, fAdd (.list [a, b, c, d, e, f, g, x, y, z]) (.list [p, q, r]) = some (.list [a, b, c, d, e, f, g, x, y, z, p, q, r]) := fun _ _ _ _ _ _ _ _ _ _ _ _ _ => addL (by simp)
  have r132 : ∀ a b c d e f g x y z p q r s t : PyData, fAdd (.list [a, b, c, d, e, f, g, x, y, z, p, q, r]) (.list [s, t]) = some (.list [a, b, c, d, e, f, g, x, y, z, p, q, r, s, t]) := fun _ _ _ _ _ _ _ _ _ _ _ _ _ _ _ => addL (by simp)
  have fin : ∀ (s0 s1 s2 s3 s4 s5 s6 : SV), ∃ z0 z1 z2 z3 z4 z5 z6, forGo gV qV [.tuple [.int 7, .int 0], .tuple [.list [], .int 0], .tuple [.list (M ++ [.tuple [.int (la - 1), .tuple [.int 1]]]), .int M.length], .tuple [.list (M ++ [.tuple [.int la, .tuple [.int 1, .int 2]]]), .int M.length],
      .tuple [.list (M ++ [.tuple [.int la, .tuple []]]), .int M.length], .tuple [.list (M ++ [.tuple [.int la, .tuple [.int (-1)]]]), .int M.length], .tuple [.list (M ++ [.tuple [.int la, .tuple [.int 1, .bool true]]]), .int M.length],
      .tuple [.list (M ++ [.tuple [.bool true, .tuple [.int 1]]]), .int M.length], .tuple [.list (M ++ [.tuple [.int la, .tuple [.int 1], .int 0]]), .int M.length], .tuple [.list (.tuple [.int (-1), .tuple [.int 1]] :: M), .int 0],
      .tuple [.list (M ++ [.int 5]), .int M.length], .tuple [.list (M ++ [.tuple [.int la, .int 5]]), .int M.length], .tuple [.list (M ++ [.tuple [.int la, .tuple [.int 2, .int 1, .int 2]], .int 5]), .int M.length], .tuple [.list x14, .int 24], .tuple [.list (x15 ++ [.int 5]), .int 24]]
      [s0, s1, s2, s3, s4, s5, s6] = .nx [z0, z1, z2, z3, z4, z5, z6] := by
    intro s0 s1 s2 s3 s4 s5 s6
    rw [forGo_nx (val_turn v1 _ _ _ _ _ _ _), forGo_nx (val_turn v2 _ _ _ _ _ _ _), forGo_nx (val_turn v3 _ _ _ _ _ _ _), forGo_nx (val_turn v4 _ _ _ _ _ _ _), forGo_nx (val_turn v5 _ _ _ _ _ _ _), forGo_nx (val_turn v6 _ _ _ _ _ _ _), forGo_nx (val_turn v7 _ _ _ _ _ _ _),
      forGo_nx (val_turn v8 _ _ _ _ _ _ _), forGo_nx (val_turn v9 _ _ _ _ _ _ _), forGo_nx (val_turn v10 _ _ _ _ _ _ _), forGo_nx (val_turn v11 _ _ _ _ _ _ _), forGo_nx (val_turn v12 _ _ _ _ _ _ _), forGo_nx (val_turn v13 _ _ _ _ _ _ _), forGo_nx (val_turn v14 _ _ _ _ _ _ _), forGo_nx (val_turn v15 _ _ _ _ _ _ _)]
    exact ⟨_, _, _, _, _, _, _, rfl⟩
  unfold gV qV at fin
  simp [List.replicate, hlast, a, a', a2, a3, l14, l15, r43, r73, r103, r132, atI_0, rngD_len]
  obtain ⟨z0, z1, z2, z3, z4, z5, z6, e⟩ := fin (.d (.list M)) (.d (.int la)) (.d (.int M.length)) (.d (.list [.tuple [.int 7, .int 0], .tuple [.list [], .int 0], .tuple [.list (M ++ [.tuple [.int (la - 1), .tuple [.int 1]]]), .int M.length], .tuple [.list (M ++ [.tuple [.int la, .tuple [.int 1, .int 2]]]), .int M.length],
      .tuple [.list (M ++ [.tuple [.int la, .tuple []]]), .int M.length], .tuple [.list (M ++ [.tuple [.int la, .tuple [.int (-1)]]]), .int M.length], .tuple [.list (M ++ [.tuple [.int la, .tuple [.int 1, .bool true]]]), .int M.length],
      .tuple [.list (M ++ [.tuple [.bool true, .tuple [.int 1]]]), .int M.length], .tuple [.list (M ++ [.tuple [.int la, .tuple [.int 1], .int 0]]), .int M.length], .tuple [.list (.tuple [.int (-1), .tuple [.int 1]] :: M), .int 0],
      .tuple [.list (M ++ [.int 5]), .int M.length], .tuple [.list (M ++ [.tuple [.int la, .int 5]]), .int M.length], .tuple [.list (M ++ [.tuple [.int la, .tuple [.int 2, .int 1, .int 2]], .int 5]), .int M.length], .tuple [.list x14, .int 24], .tuple [.list (x15 ++ [.int 5]), .int 24]])) .un .un .un
  rw [e]
  simp [l16, mk, hf, rngD_len]
end K70

set_option Elab.async false
set_option linter.all false
set_option maxRecDepth 100000
set_option maxHeartbeats 2000000
namespace K70
open PySem L2 Sm
def L14 : List Lf := List.replicate 24 (0, [1])
def L15 : List Lf := (List.range 24).map fun (b : Nat) => ((b : Int), [(b : Int)])
def L16 : List Lf := (List.range 24).map fun (b : Nat) => ((b : Int), [2, 1])
theorem gl_one {f n : Int} (hf : 0 ≤ f) (hn : 0 ≤ n) : GL (f, [n]) := ⟨hf, by simp, fun x hx => (by simp at hx; omega), by simp, by simp⟩
theorem gl_two {f : Int} (hf : 0 ≤ f) : GL (f, [2, 1]) := ⟨hf, by simp, fun x hx => (by simp at hx; omega), by simp, by simp⟩
theorem g14 : GLs L14 := ⟨fun l hl => by rw [List.eq_of_mem_replicate hl]; exact gl_one (by omega) (by omega), by
  unfold L14
  rw [List.pairwise_replicate]
  exact .inr (Int.le_refl _), by simp [L14]⟩
theorem up_range (f : Nat → List Int) (n : Nat) : ((List.range n).map fun (b : Nat) => ((b : Int), f b)).Pairwise (fun (x y : Lf) => x.1 ≤ y.1) := by
  rw [List.pairwise_map]
  exact List.pairwise_lt_range.imp fun h => by simp; omega
theorem g15 : GLs L15 := ⟨fun l hl => by
  obtain ⟨b, _, rfl⟩ := List.mem_map.mp hl
  exact gl_one (by omega) (by omega), up_range _ _, by simp [L15]⟩
theorem g16 : GLs L16 := ⟨fun l hl => by
  obtain ⟨b, _, rfl⟩ := List.mem_map.mp hl
  exact gl_two (by omega), up_range _ _, by simp [L16]⟩
theorem l14 (ρ : List SV) : lcGo (gName1 4) (pK true) (pTup (pCons (pD (pK (.int 0))) (pCons (pD (pTup (pCons (pD (pK (.int 1))) pNil))) pNil))) ρ (rngD 0 25) = .ok (L14.map (itm true) ++ [itm true (0, [1])]) := by
  rw [lcGo_ix (g := gName1 4) (pt := pK true) (pe := (pTup (pCons (pD (pK (.int 0))) (pCons (pD (pTup (pCons (pD (pK (.int 1))) pNil))) pNil)))) (ρ := ρ) (fun _ => itm true (0, [1])) (rngD 0 25) 0 fun i x hx => ⟨_, rfl, rfl, (by simp [itm, sqD])⟩]
  rw [rng_len]
  rfl
theorem l15 (ρ : List SV) (h : 4 < ρ.length) : lcGo (gName1 4) (pK true) (pTup (pCons (pArg 4) (pCons (pD (pTup (pCons (pArg 4) pNil))) pNil))) ρ (rngD 0 24) = .ok (L15.map (itm true)) := by
  rw [lcGo_ix (fun b => itm true ((b : Int), [(b : Int)])) (rngD 0 24) 0 fun i x hx => by
    obtain ⟨_, rfl⟩ := rng_get hx
    refine ⟨_, rfl, rfl, ?_⟩
    have e : (ρ.set 4 (SV.d (.int (0 + (i : Int)))))[4]? = some (.d (.int (0 + (i : Int)))) := List.getElem?_set_self h
    rw [Int.zero_add] at e ⊢
    rw [Nat.zero_add]
    simp [itm, sqD, e]]
  rw [rng_len]
  unfold L15
  rw [List.map_map]
  simp only [Nat.zero_add, Function.comp_def]
theorem l16 (ρ : List SV) (h : 6 < ρ.length) : lcGo (gName1 6) (pK true) (pList (pLst (pCons (pArg 6) (pCons (pD (pList (pLst (pCons (pD (pK (.int 2))) (pCons (pD (pK (.int 1))) pNil))))) pNil)))) ρ (rngD 0 24) = .ok (L16.map (itm false)) := by
  rw [lcGo_ix (fun b => itm false ((b : Int), [2, 1])) (rngD 0 24) 0 fun i x hx => by
    obtain ⟨_, rfl⟩ := rng_get hx
    refine ⟨_, rfl, rfl, ?_⟩
    have e : (ρ.set 6 (SV.d (.int (0 + (i : Int)))))[6]? = some (.d (.int (0 + (i : Int)))) := List.getElem?_set_self h
    rw [Int.zero_add] at e ⊢
    rw [Nat.zero_add]
    simp [itm, sqD, e]]
  rw [rng_len]
  unfold L16
  rw [List.map_map]
  simp only [Nat.zero_add, Function.comp_def]
theorem lfAll_of : ∀ {xs : List PyData}, (∀ x ∈ xs, lf x = true) → lfAll xs = true
  | [], _ => by unfold lfAll; rfl
  | x :: r, h => by
    unfold lfAll
    rw [h x List.mem_cons_self, lfAll_of fun y hy => h y (List.mem_cons_of_mem _ hy)]
    rfl
theorem lf_ints (ns : List Int) : lfAll (ns.map .int) = true := lfAll_of fun x hx => by
  obtain ⟨i, _, rfl⟩ := List.mem_map.mp hx
  unfold lf
  rfl
theorem lf_int (i : Int) : lf (.int i) = true := by unfold lf; rfl
theorem lf_tup {xs : List PyData} (h : lfAll xs = true) : lf (.tuple xs) = true := by unfold lf; exact h
theorem lf_cons {x : PyData} {xs : List PyData} (h : lf x = true) (k : lfAll xs = true) : lfAll (x :: xs) = true := by unfold lfAll; rw [h, k]; rfl
theorem lf_nil : lfAll [] = true := by unfold lfAll; rfl
theorem lf_blk (L : List Lf) : lfAll [livT L, .int L.length] = true := by
  refine lf_cons (lf_tup (lfAll_of fun x hx => ?_)) (lf_cons (lf_int _) lf_nil)
  obtain ⟨l, _, rfl⟩ := List.mem_map.mp hx
  exact lf_tup (lf_cons (lf_int _) (lf_cons (lf_tup (lf_ints _)) lf_nil))
theorem make_good {L : List Lf} (h : GLs L) (hn : L ≠ []) (u t : Bool) : (p_m_uinit [.d (sqD t (L.map (itm u)))]).lfs = .ok [livT L, .int L.length] := by
  rw [init_good h hn u t]
  show (if lfAll [livT L, .int L.length] = true then R.ok _ else .bad) = _
  rw [if_pos (lf_blk L)]
theorem erl_last (L : List Lf) (l : Lf) : erl (L ++ [l]) (L ++ [l]).length = l.1 := by
  rw [List.length_append]
  show (((L ++ [l])[L.length]?).map (·.1)).getD 0 = l.1
  simp
theorem refus_ok {L : List Lf} (h : LL L) (hl : L.length ≤ 23) : p_u_law_refusals [.d (livL L)] = .ok (.bool true) := by
  obtain ⟨L0, l, rfl⟩ : ∃ L0 l, L = L0 ++ [l] := ⟨L.dropLast, L.getLast h.ne, (List.dropLast_concat_getLast h.ne).symm⟩
  have few := h.g.few
  have gl := h.g.all l (by simp)
  have er := erl_last L0 l
  have nb : ∀ {x : PyData} {rest : List PyData}, notL x → p_u_law_value [.d (.list ((L0 ++ [l]).map lifeD ++ x :: rest))] = .ok (.int ((L0 ++ [l]).map lifeD).length) := by
    intro x rest hx
    rw [List.length_map]
    exact value_x (init_bad h.g true false (.inl hx))
  refine refus_gen (M := (L0 ++ [l]).map lifeD) (la := l.1) (y := .tuple (l.2.map .int)) (x14 := L14.map (itm true) ++ [itm true (0, [1])]) (x15 := L15.map (itm true)) (x16 := L16.map (itm false)) (fs := [livT L16, .int L16.length])
    ?_ (value_x (init_no 7)) (value_x init_nil) ?_ (nb (nl_up _)) (nb (nl_empty _)) (nb (nl_len _)) (nb (nl_tr _)) (nb (nl_bool _ _)) (nb (nl_three _ _ _)) ?_ (nb (nl_int _)) (nb (nl_noseq _ _)) (nb (nl_up2 _)) ?_ ?_ ?_ ?_ ?_ ?_ (fun ρ _ => l14 ρ) l15 l16 ?_ ?_
  · rw [List.map_append]
    exact atI_last
  · by_cases n : l.1 - 1 < 0
    · exact nb (nl_neg _ n)
    · rw [List.length_map]
      exact value_x (init_bad h.g true false (.inr ⟨(l.1 - 1, [1]), rfl, gl_one (by omega) (by omega), .inl (by rw [er]; show l.1 - 1 < l.1; omega)⟩))
  · exact value_x (init_bad (L := []) ⟨fun x hx => (by cases hx), List.Pairwise.nil, by simp⟩ true false (.inl (nl_neg _ (by omega))))
  · exact value_x (init_bad g14 true false (.inr ⟨(0, [1]), rfl, gl_one (by omega) (by omega), .inr (by simp [L14])⟩))
  · exact value_x (init_bad g15 true false (.inl (nl_int 5)))
  · exact fun y => addL (by rw [List.length_map]; simp only [List.length_cons, List.length_nil]; omega)
  · exact fun y => addL (by rw [List.length_map]; simp only [List.length_cons, List.length_nil]; omega)
  · intro y z
    rw [addL (by rw [List.length_append, List.length_map]; simp only [List.length_cons, List.length_nil]; omega), List.append_assoc]
    rfl
  · exact addL (by rw [List.length_map]; simp [L15])
  · exact make_good g16 (by simp [L16]) false false
  · simp [L16]
end K70

set_option Elab.async false
set_option linter.all false
set_option maxRecDepth 100000
set_option maxHeartbeats 2000000
namespace K70
open PySem L2 Sm
def Dig (D : List Int) : Prop := ∀ d ∈ D, 0 ≤ d ∧ d < 10
theorem cut_63 (ns : List Int) : ∃ ms : List Int, fSlS ns none (some 63) = some (ms.map .int) ∧ ms.length ≤ 63 := by
  refine ⟨ns.take (min 63 ns.length), ?_, by rw [List.length_take]; omega⟩
  unfold fSlS fCut
  rw [HT.sIx_none]
  have e := HT.sIx_nat (ns.map PyData.int).length (ns.map PyData.int).length 63
  rw [show ((63 : Nat) : Int) = 63 from rfl] at e
  rw [e, List.drop_zero, Nat.sub_zero, List.length_map, List.map_take]
def qD : List SV → Fl := (qSeq (qApp 1 (p2 fMod (p1 fInt1 (pV 3)) (pK (.int 10))))
  (qSeq (qSet 3 (p2 fDiv (pV 3) (pK (.int 10))))
  (qIf (pTest (p2 fEq (pRaw 3) (pK (.int 0)))) qBrk qNext)))
theorem draws_ok (ns : List Int) : ∃ D : List Int, Dig D ∧ p_u_law_draws [.scr ns] = .ok (.list (D.map .int)) := by
  rw [p_u_law_draws, run1, q_u_law_draws]
  obtain ⟨ms, c1, c2⟩ := cut_63 ns
  obtain ⟨ρ', e, D, s2, s3, s4, rfl, hD, hl⟩ := for_all (g := gName1 2) (q := (qSeq (qSet 3 (p1 fAbs (p1 fInt1 (pV 2))))
  (qFor (iRg1 (pK (.int 18))) (gName1 4) qD))) (ms.map PyData.int)
    (fun i ρ => ∃ D s2 s3 s4, ρ = [.scr ns, .own (D.map PyData.int), s2, s3, s4] ∧ Dig D ∧ D.length ≤ 18 * i) [.scr ns, .own [], .un, .un, .un] ⟨[], _, _, _, rfl, (fun d hd => by cases hd), by simp⟩ (by
      rintro i x ρ hx ⟨D, s2, s3, s4, rfl, hD, hl⟩
      have hi := get_lt hx
      rw [List.length_map] at hi
      obtain ⟨c, h1, rfl⟩ := map_get hx
      have ab : 0 ≤ (if c < 0 then -c else c) := by split <;> omega
      revert ab
      generalize hw : (if c < 0 then -c else c) = w
      intro ab
      obtain ⟨ρ', e, D', v', s4', rfl, hD', hl'⟩ := for_any (g := gName1 4) (q := qD) (fun ρ => ∃ D v s4, ρ = [.scr ns, .own (D.map PyData.int), .d (.int c), v, s4] ∧ Dig D ∧ D.length ≤ 18 * i + 18) (rngD 0 18)
        (fun j ρ => ∃ D v s4, ρ = [.scr ns, .own (D.map PyData.int), .d (.int c), .d (.int v), s4] ∧ Dig D ∧ D.length ≤ 18 * i + j ∧ 0 ≤ v) [.scr ns, .own (D.map .int), .d (.int c), .d (.int w), s4] ⟨D, w, s4, rfl, hD, by omega, ab⟩ (by
          rintro j x ρ hx ⟨D, v, s4, rfl, hD, hl, hv⟩
          obtain ⟨hj, rfl⟩ := rng_get hx
          have m0 := Int.fmod_nonneg_of_pos v (b := 10) (by omega)
          have m1 := Int.fmod_lt_of_pos v (b := 10) (by omega)
          have d0 : 0 ≤ v.fdiv 10 := Int.fdiv_nonneg hv (by omega)
          have em : fMod (.int v) (.int 10) = some (.int (v.fmod 10)) := ev_mod (by omega)
          have ed : fDiv (.int v) (.int 10) = some (.int (v.fdiv 10)) := ev_div (by omega) (by decide)
          have sm : D.length < 1000000 := by omega
          have dg : Dig (D ++ [v.fmod 10]) := fun d hd => by
            rcases List.mem_append.mp hd with h | h
            · exact hD d h
            · rw [List.mem_singleton.mp h]; exact ⟨m0, m1⟩
          have le : (D ++ [v.fmod 10]).length ≤ 18 * i + (j + 1) := by rw [List.length_append]; simp; omega
          have st : fTurn (gName1 4) qD (.int (0 + (j : Int))) [.scr ns, .own (D.map .int), .d (.int c), .d (.int v), s4] = if v.fdiv 10 = 0 then .bk [.scr ns, .own ((D ++ [v.fmod 10]).map .int), .d (.int c), .d (.int (v.fdiv 10)), nD j] else .nx [.scr ns, .own ((D ++ [v.fmod 10]).map .int), .d (.int c), .d (.int (v.fdiv 10)), nD j] := by
            unfold qD nD
            simp [em, ed, sm]
          by_cases z : v.fdiv 10 = 0
          · rw [if_pos z] at st
            exact .inr ⟨_, st, D ++ [v.fmod 10], _, _, rfl, dg, by omega⟩
          · rw [if_neg z] at st
            exact .inl ⟨_, st, D ++ [v.fmod 10], _, _, rfl, dg, le, d0⟩) (by
          rintro ρ ⟨D, v, s4, rfl, hD, hl, hv⟩
          rw [rng_len] at hl
          exact ⟨D, _, _, rfl, hD, hl⟩)
      refine ⟨[.scr ns, .own (D'.map .int), .d (.int c), v', s4'], ?_, D', _, _, _, rfl, hD', by omega⟩
      simp
      rw [hw, e])
  unfold qD at e
  refine ⟨D, hD, ?_⟩
  simp [List.replicate, c1]
  rw [e]
  simp
theorem pick_ok {D : List Int} (hD : Dig D) {at' many : Int} (ha : 0 ≤ at') (hm : 1 ≤ many) (hm2 : many ≤ 10) : ∃ k : Int, 0 ≤ k ∧ k < many ∧ p_u_law_pick [.d (.list (D.map .int)), .d (.int at'), .d (.int many)] = .ok (.int k) := by
  have n10 : ¬ 10 < many := by omega
  by_cases h2 : at' < D.length
  · obtain ⟨x, hx⟩ := get_of (xs := D) (i := at'.toNat) (by omega)
    refine ⟨x.fmod many, Int.fmod_nonneg_of_pos x (by omega), Int.fmod_lt_of_pos x (by omega), ?_⟩
    have e1 : atI (D.map PyData.int) at' = some (.int x) := by rw [atI_map, atI_at ha, hx]; rfl
    have e2 : fMod (.int x) (.int many) = some (.int (x.fmod many)) := ev_mod (by omega)
    rw [p_u_law_pick, run3, q_u_law_pick]
    by_cases h1 : at' + 1 < D.length
    · simp [n10, h1, h2, e1, e2]
    · simp [n10, h1, h2, e1, e2]
  · refine ⟨0, by omega, by omega, ?_⟩
    have h1 : ¬ at' + 1 < D.length := by omega
    rw [p_u_law_pick, run3, q_u_law_pick]
    simp [h1, h2]
theorem far_ok {D : List Int} (hD : Dig D) {at' : Int} (ha : 0 ≤ at') : ∃ k : Int, 0 ≤ k ∧ p_u_law_far [.d (.list (D.map .int)), .d (.int at')] = .ok (.int k) := by
  rw [p_u_law_far, run2, q_u_law_far]
  obtain ⟨ρ', e, k, s3, rfl, hk⟩ := for_all (g := gName1 3) (q := (qSet 2 (p2 fAdd (p2 fMul (pV 2) (pK (.int 10))) (pCall p_u_law_pick (pCons (pArg 0) (pCons (pD (p2 fAdd (pV 1) (pV 3))) (pCons (pD (pK (.int 10))) pNil))))))) (rngD 0 29)
    (fun i ρ => ∃ k s3, ρ = [.d (.list (D.map .int)), .d (.int at'), .d (.int k), s3] ∧ 0 ≤ k) [.d (.list (D.map .int)), .d (.int at'), .d (.int 0), .un] ⟨0, _, rfl, by omega⟩ (by
      rintro i x ρ hx ⟨k, s3, rfl, hk⟩
      obtain ⟨hi, rfl⟩ := rng_get hx
      obtain ⟨p, p0, p1, pe⟩ := pick_ok hD (at' := at' + i) (many := 10) (by omega) (by omega) (by omega)
      have em : fMul (.int k) (.int 10) = some (.int (k * 10)) := ev_mul_r (by decide)
      refine ⟨_, ?_, k * 10 + p, nD i, rfl, by omega⟩
      unfold nD
      simp [pe, em])
  refine ⟨k, hk, ?_⟩
  simp [List.replicate]
  rw [e]
  simp
theorem drop_ix {k : Int} (h0 : 0 ≤ k) (h1 : k < 4) : ∃ d : Int, 0 ≤ d ∧ atI [PyData.int 0, .int 0, .int 1, .int 3] k = some (.int d) := by
  have : k = 0 ∨ k = 1 ∨ k = 2 ∨ k = 3 := by omega
  rcases this with rfl | rfl | rfl | rfl
  · exact ⟨0, by omega, rfl⟩
  · exact ⟨0, by omega, rfl⟩
  · exact ⟨1, by omega, rfl⟩
  · exact ⟨3, by omega, rfl⟩
end K70

set_option Elab.async false
set_option linter.all false
set_option maxRecDepth 100000
set_option maxHeartbeats 2000000
namespace K70
open PySem L2 Sm
def qT1 : List SV → Fl := (qSeq (qApp 8 (p2 fMul (pV 7) (pV 2)))
  (qSet 7 (p2 fMax2 (pK (.int 0)) (p2 fSub (pV 7) (p2 fIx (pSeqOf (pList (pLst (pCons (pD (pK (.int 0))) (pCons (pD (pK (.int 0))) (pCons (pD (pK (.int 1))) (pCons (pD (pK (.int 3))) pNil))))))) (pCall p_u_law_pick (pCons (pArg 0) (pCons (pD (p2 fAdd (p2 fAdd (pV 6) (pK (.int 3))) (pV 9))) (pCons (pD (pK (.int 4))) pNil)))))))))
def qT : List SV → Fl := (qSeq (qSet 6 (p2 fAdd (pK (.int 5)) (p2 fMul (pK (.int 8)) (pV 5))))
  (qSeq (qSet 4 (p2 fAdd (pV 4) (pCall p_u_law_pick (pCons (pArg 0) (pCons (pArg 6) (pCons (pD (pK (.int 3))) pNil))))))
  (qSeq (qSet 7 (pCall p_u_law_pick (pCons (pArg 0) (pCons (pD (p2 fAdd (pV 6) (pK (.int 1)))) (pCons (pD (pK (.int 8))) pNil)))))
  (qSeq (qSetN 8 (pLst pNil))
  (qSeq (qFor (iRg1 (p2 fAdd (pK (.int 1)) (pCall p_u_law_pick (pCons (pArg 0) (pCons (pD (p2 fAdd (pV 6) (pK (.int 2)))) (pCons (pD (pK (.int 5))) pNil)))))) (gName1 9) qT1)
  (qApp 3 (pTup (pCons (pArg 4) (pCons (pD (p1 fTuple (pSq 8))) pNil)))))))))
structure Drw (L : List Lf) (f : Int) (n : Nat) : Prop where
  len : L.length = n
  all : ∀ l ∈ L, GL l ∧ l.1 ≤ f ∧ l.2.length ≤ 5
  up : L.Pairwise (fun x y => x.1 ≤ y.1)
  f0 : 0 ≤ f
  f1 : f ≤ 2 + 2 * n
theorem lives_turn {D : List Int} (hD : Dig D) {unit : Int} (hu : 1 ≤ unit) {many : Int} {L : List Lf} {f : Int} {b : Nat} (h : Drw L f b) (hb : b ≤ 10) (s5 s6 s7 s8 s9 : SV) :
    ∃ L' f' s5' s6' s7' s8' s9', fTurn (gName1 5) qT (.int (b : Int)) [.d (.list (D.map .int)), .d (.int many), .d (.int unit), .own (L.map lifeD), .d (.int f), s5, s6, s7, s8, s9] = .nx [.d (.list (D.map .int)), .d (.int many), .d (.int unit), .own (L'.map lifeD), .d (.int f'), s5', s6', s7', s8', s9'] ∧ Drw L' f' (b + 1) := by
  obtain ⟨p1, p10, p11, pe1⟩ := pick_ok hD (at' := 5 + 8 * (b : Int)) (many := 3) (by omega) (by omega) (by omega)
  obtain ⟨p2, p20, p21, pe2⟩ := pick_ok hD (at' := 5 + 8 * (b : Int) + 1) (many := 8) (by omega) (by omega) (by omega)
  obtain ⟨p3, p30, p31, pe3⟩ := pick_ok hD (at' := 5 + 8 * (b : Int) + 2) (many := 5) (by omega) (by omega) (by omega)
  obtain ⟨ρ', e, ls, v, s9', rfl, hl, hn, hp, hv, hv0, hv1⟩ := for_all (g := gName1 9) (q := qT1) (rngD 0 (1 + p3).toNat)
    (fun j ρ => ∃ ls v s9, ρ = [.d (.list (D.map .int)), .d (.int many), .d (.int unit), .own (L.map lifeD), .d (.int (f + p1)), nD b, .d (.int (5 + 8 * (b : Int))), .d (.int v), .own (ls.map .int), s9] ∧ ls.length = j ∧ (∀ x ∈ ls, 0 ≤ x) ∧ ls.Pairwise (fun x y => y ≤ x) ∧ (∀ x ∈ ls, v * unit ≤ x) ∧ 0 ≤ v ∧ v < 8)
    [.d (.list (D.map .int)), .d (.int many), .d (.int unit), .own (L.map lifeD), .d (.int (f + p1)), nD b, .d (.int (5 + 8 * (b : Int))), .d (.int p2), .own [], s9] ⟨[], p2, s9, rfl, rfl, (fun x hx => by cases hx), List.Pairwise.nil, (fun x hx => by cases hx), p20, p21⟩ (by
      rintro j x ρ hx ⟨ls, v, s9, rfl, hl, hn, hp, hv, hv0, hv1⟩
      obtain ⟨hj, rfl⟩ := rng_get hx
      obtain ⟨p4, p40, p41, pe4⟩ := pick_ok hD (at' := 5 + 8 * (b : Int) + 3 + j) (many := 4) (by omega) (by omega) (by omega)
      obtain ⟨d, d0, de⟩ := drop_ix p40 p41
      have em : fMul (.int v) (.int unit) = some (.int (v * unit)) := ev_mul_l (by omega)
      have vu : 0 ≤ v * unit := Int.mul_nonneg hv0 (by omega)
      have lt : ls.length < 1000000 := by omega
      have mono : max 0 (v - d) * unit ≤ v * unit := Int.mul_le_mul_of_nonneg_right (by omega) (by omega)
      refine ⟨[.d (.list (D.map .int)), .d (.int many), .d (.int unit), .own (L.map lifeD), .d (.int (f + p1)), nD b, .d (.int (5 + 8 * (b : Int))), .d (.int (max 0 (v - d))), .own ((ls ++ [v * unit]).map .int), nD j], ?_, ls ++ [v * unit], max 0 (v - d), nD j, rfl, by rw [List.length_append, hl]; rfl, ?_, ?_, ?_, by omega, by omega⟩
      · unfold qT1 nD
        simp [pe4, de, em, lt]
      · intro x hx
        rcases List.mem_append.mp hx with h | h
        · exact hn x h
        · rw [List.mem_singleton.mp h]; exact vu
      · rw [List.pairwise_append]
        refine ⟨hp, List.pairwise_singleton _ _, fun x hx y hy => ?_⟩
        rw [List.mem_singleton.mp hy]
        exact hv x hx
      · intro x hx
        rcases List.mem_append.mp hx with h | h
        · exact Int.le_trans mono (hv x h)
        · rw [List.mem_singleton.mp h]; exact mono)
  rw [rng_len] at hl
  have em : fMul (.int 8) (.int (b : Int)) = some (.int (8 * (b : Int))) := ev_mul_l (by decide)
  have rr := rgK1_i (i := 1 + p3) (by omega) (by omega)
  have lt : L.length < 1000000 := by have := h.len; omega
  refine ⟨L ++ [(f + p1, ls)], f + p1, nD b, .d (.int (5 + 8 * (b : Int))), .d (.int v), .own (ls.map .int), s9', ?_, ?_⟩
  · unfold nD at *
    unfold qT
    simp [em, pe1, pe2, pe3, rr, e, lt, lifeD]
  · refine ⟨by rw [List.length_append, h.len]; rfl, ?_, ?_, by have := h.f0; omega, by have := h.f1; omega⟩
    · intro l hl'
      rcases List.mem_append.mp hl' with k | k
      · obtain ⟨k1, k2, k3⟩ := h.all l k
        exact ⟨k1, by omega, k3⟩
      · rw [List.mem_singleton.mp k]
        refine ⟨⟨?_, ?_, hn, hp, ?_⟩, Int.le_refl _, ?_⟩
        · show 0 ≤ f + p1
          have := h.f0
          omega
        · show ls ≠ []
          intro z
          rw [z] at hl
          simp at hl
          omega
        · show ls.length < 1000
          omega
        · show ls.length ≤ 5
          omega
    · rw [List.pairwise_append]
      refine ⟨h.up, List.pairwise_singleton _ _, fun x hx y hy => ?_⟩
      rw [List.mem_singleton.mp hy]
      have := (h.all x hx).2.1
      show x.1 ≤ f + p1
      omega
theorem lives_ok {D : List Int} (hD : Dig D) {unit : Int} (hu : 1 ≤ unit) {many : Int} (h1 : 1 ≤ many) (h2 : many ≤ 6) : ∃ L : List Lf, LL L ∧ (L.length : Int) = many ∧ p_u_law_lives [.d (.list (D.map .int)), .d (.int many), .d (.int unit)] = .ok (livL L) := by
  rw [p_u_law_lives, run3, q_u_law_lives]
  obtain ⟨p, p0, p1, pe⟩ := pick_ok hD (at' := 4) (many := 3) (by omega) (by omega) (by omega)
  obtain ⟨ρ', e, L, f, s5, s6, s7, s8, s9, rfl, h⟩ := for_all (g := gName1 5) (q := qT) (rngD 0 many.toNat)
    (fun b ρ => ∃ L f s5 s6 s7 s8 s9, ρ = [.d (.list (D.map .int)), .d (.int many), .d (.int unit), .own (L.map lifeD), .d (.int f), s5, s6, s7, s8, s9] ∧ Drw L f b)
    [.d (.list (D.map .int)), .d (.int many), .d (.int unit), .own [], .d (.int p), .un, .un, .un, .un, .un] ⟨[], p, _, _, _, _, _, rfl, rfl, (fun x hx => by cases hx), List.Pairwise.nil, p0, by omega⟩ (by
      rintro b x ρ hx ⟨L, f, s5, s6, s7, s8, s9, rfl, h⟩
      obtain ⟨hb, rfl⟩ := rng_get hx
      rw [Int.zero_add]
      obtain ⟨L', f', s5', s6', s7', s8', s9', k, h'⟩ := lives_turn hD hu (many := many) h (by omega) s5 s6 s7 s8 s9
      exact ⟨_, k, L', f', _, _, _, _, _, rfl, h'⟩)
  rw [rng_len] at h
  have hl := h.len
  have hf := h.f1
  refine ⟨L, ⟨⟨fun l hl' => (h.all l hl').1, h.up, by omega⟩, fun l hl' => ?_, ?_⟩, by omega, ?_⟩
  · obtain ⟨_, k2, k3⟩ := h.all l hl'
    omega
  · rintro rfl
    simp at hl
    omega
  · unfold qT qT1 at e
    have rr := rgK1_i (i := many) (by omega) (by omega)
    simp [List.replicate, pe, rr]
    rw [e]
    simp [livL]
end K70

set_option Elab.async false
set_option linter.all false
set_option maxRecDepth 100000
set_option maxHeartbeats 2000000
namespace K70
open PySem L2 Sm
theorem seq_nx {p k : List SV → Fl} {ρ : List SV} (ρ' : List SV) (h : p ρ = .nx ρ') {x : R PyData} (hx : endF (k ρ') = x) : endF (qSeq p k ρ) = x := by
  rw [ev_Seq, h, sqK_nx]
  exact hx
/-! ### stacked starts -/
def stk (L : List Lf) (b : Nat) : Int := ((L.take b).map hd).sum
def stkL (L : List Lf) (n : Nat) : List Int := (List.range n).map (stk L)
theorem stk_step {L : List Lf} {b : Nat} {l : Lf} (h : L[b]? = some l) : stk L (b + 1) = stk L b + hd l := by
  unfold stk
  rw [take_step h, List.map_append, List.sum_append]
  simp
theorem stkL_step (L : List Lf) (n : Nat) : stkL L (n + 1) = stkL L n ++ [stk L n] := by
  unfold stkL
  rw [List.range_succ, List.map_append]
  rfl
theorem stk_nn {L : List Lf} (h : ∀ l ∈ L, GL l) : ∀ b, 0 ≤ stk L b
  | 0 => by simp [stk]
  | b + 1 => by
    have ih := stk_nn h b
    by_cases hb : b < L.length
    · obtain ⟨l, e⟩ := get_of hb
      rw [stk_step e]
      have := hd_nn (h l (mem_at e))
      omega
    · unfold stk at *
      rw [List.take_of_length_le (by omega)] at *
      exact ih
theorem stk_mono {L : List Lf} (h : ∀ l ∈ L, GL l) {b : Nat} : ∀ k, stk L b ≤ stk L (b + k)
  | 0 => Int.le_refl _
  | k + 1 => by
    have ih := stk_mono h (b := b) k
    by_cases hb : b + k < L.length
    · obtain ⟨l, e⟩ := get_of hb
      rw [← Nat.add_assoc, stk_step e]
      have := hd_nn (h l (mem_at e))
      omega
    · unfold stk at *
      rw [List.take_of_length_le (show L.length ≤ b + (k + 1) by omega)]
      rw [List.take_of_length_le (show L.length ≤ b + k by omega)] at ih
      exact ih
theorem stk_sv {L : List Lf} {b : Nat} (h : b < L.length) : sv (stkL L L.length) b = stk L b := by
  unfold sv stkL
  rw [List.getElem?_map, List.getElem?_range h]
  rfl
theorem stk_gs {L : List Lf} (h : ∀ l ∈ L, GL l) : GS L (stkL L L.length) := ⟨by simp [stkL], fun s hs => by
  obtain ⟨b, _, rfl⟩ := List.mem_map.mp hs
  exact stk_nn h b⟩
theorem stk_plc {L : List Lf} (h : GLs L) : plc L (stkL L L.length) = true := by
  refine (plc_of (b := true) ⟨fun _ => ?_, fun _ => rfl⟩).symm
  intro b c lb lc lt eb ec m a1 a2
  have gb := h.all lb (mem_at eb)
  rw [stk_sv (get_lt eb), stk_sv (get_lt ec)]
  have am := of_decide_eq_true a1
  have k1 : stk L c = stk L (b + 1 + (c - (b + 1))) := by congr 1; omega
  have k2 := stk_mono h.all (b := b + 1) (c - (b + 1))
  have k3 := stk_step eb
  have k4 : la lb m ≤ hd lb := dec_at gb.dec (Nat.zero_le _) (hd_at gb) (la_in am.1 am.2)
  unfold apt
  omega
/-! ### the numbers -/
theorem ne_str {x : Str} (h : PySem.PyData.strOk x = true) : fNe (.str x) (.str x) = some (.bool false) := fNe_same (n := 0) (by omega) (dpt_str h)
theorem nums {L : List Lf} (hL : L ≠ []) (i : Nat) (hi : i < 2) :
    p_u_law_number [blk L, .d (.int (i : Int)), .d (.int L.length), .d (.int L.length)] = .ok (.str "b") ∧
    p_u_law_number [blk L, .d (.int (i : Int)), .d (.int 0), .d (.int (-1))] = .ok (.str "c") ∧
    p_u_law_number [blk L, .d (.int (i : Int)), .d (.bool true), .d (.int 0)] = .ok (.str "b") ∧
    p_u_law_number [blk L, .d (.int (i : Int)), .d (.int 0), .d (.int L.length)] = .ok (.str "c") := by
  have pos := List.length_pos_iff.mpr hL
  have c0 : p_m_check_block [blk L, .d (.str "b"), .d (.int 0)] = .ok .none := check_ok (by omega) (by omega)
  have m1 : p_m_meeting [blk L, .d (.int L.length), .d (.int L.length)] = .exc 0 (.str "b") := meeting_b (check_bad (by omega))
  have m2 : p_m_meeting [blk L, .d (.int 0), .d (.int (-1))] = .exc 0 (.str "c") := meeting_c c0 (check_bad (by omega))
  have m3 : p_m_meeting [blk L, .d (.bool true), .d (.int 0)] = .exc 0 (.str "b") := meeting_b check_bool
  have m4 : p_m_meeting [blk L, .d (.int 0), .d (.int L.length)] = .exc 0 (.str "c") := meeting_c c0 (check_bad (by omega))
  match i, hi with
  | 0, _ => exact ⟨num0 m1, num0 m2, num0 m3, num0 m4⟩
  | 1, _ => exact ⟨num1 (lenp_x m1), num1 (lenp_x m2), num1 (lenp_x m3), num1 (lenp_x m4)⟩
theorem nums2 {L : List Lf} (hL : L ≠ []) :
    p_u_law_number [blk L, .d (.int 2), .d (.int L.length), .d (.int 0)] = .ok (.str "b") ∧
    p_u_law_number [blk L, .d (.int 2), .d (.int 0), .d (.bool true)] = .ok (.str "moment") := by
  have pos := List.length_pos_iff.mpr hL
  obtain ⟨l, e⟩ := get_of pos
  exact ⟨num2 (then_b (check_bad (by omega))), num2 (then_mb (m := true) e)⟩
/-! ### what is handed -/
theorem handed_ok {L : List Lf} (ρ : List SV) (h : 6 < ρ.length) : lcGo (gName1 6) (pK true) (pLst2F (pLf (p2 fIx (pSq 6) (pK (.int 0)))) (pListF (p1 fList (pSeqOf (p2 fIx (pSq 6) (pK (.int 1))))))) ρ (L.map lifeD) = .ok (L.map (itm false)) := by
  obtain ⟨ys, k1, k2, k3⟩ : ∃ ys : List PyData, lcGo (gName1 6) (pK true) (pLst2F (pLf (p2 fIx (pSq 6) (pK (.int 0)))) (pListF (p1 fList (pSeqOf (p2 fIx (pSq 6) (pK (.int 1))))))) ρ (L.map lifeD) = .ok ys ∧ True ∧ ys = L.map (itm false) := by
    refine ⟨_, ?_, trivial, rfl⟩
    induction L with
    | nil => rfl
    | cons l L ih =>
      have e : (ρ.set 6 (SV.d (lifeD l)))[6]? = some (.d (lifeD l)) := List.getElem?_set_self h
      rw [List.map_cons, List.map_cons]
      unfold lcGo
      have z : (pLst2F (pLf (p2 fIx (pSq 6) (pK (.int 0)))) (pListF (p1 fList (pSeqOf (p2 fIx (pSq 6) (pK (.int 1))))))) (ρ.set 6 (SV.d (lifeD l))) = .ok (itm false l) := by
        simp [e]
        unfold lifeD
        simp [atI_0, atI_1, lf_int, lf_ints, itm, sqD]
      simp only [ev_gName1, ev_K, z, ih, R.bind_ok]
  rw [k1, k3]
/-! ### the starts that are drawn -/
theorem drawn_ok {D : List Int} (hD : Dig D) {unit : Int} (hu : 1 ≤ unit) {L : List Lf} (hl : L.length ≤ 6) (turn : Nat) (s0 s4 s5 s6 s7 s9 s10 s11 s12 s13 s14 : SV) :
    ∃ S : List Int, GS L S ∧ lcGo (gName1 12) (pK true) (p2 fMul (pV 3) (pCall p_u_law_pick (pCons (pArg 1) (pCons (pD (p2 fAdd (p2 fAdd (pK (.int 53)) (p2 fMul (pV 2) (pV 8))) (pV 12))) (pCons (pD (pK (.int 9))) pNil)))))
      [s0, .d (.list (D.map .int)), .d (.int L.length), .d (.int unit), s4, s5, s6, s7, .d (.int (turn : Int)), s9, s10, s11, s12, s13, s14] (rngD 0 L.length) = .ok (S.map .int) := by
  have em : fMul (.int (L.length : Int)) (.int (turn : Int)) = some (.int ((L.length : Int) * (turn : Int))) := ev_mul_l (by omega)
  have nn : 0 ≤ (L.length : Int) * (turn : Int) := Int.mul_nonneg (by omega) (by omega)
  obtain ⟨S, k1, k2, k3⟩ := lcGo_typ (g := gName1 12) (pt := pK true) (pe := (p2 fMul (pV 3) (pCall p_u_law_pick (pCons (pArg 1) (pCons (pD (p2 fAdd (p2 fAdd (pK (.int 53)) (p2 fMul (pV 2) (pV 8))) (pV 12))) (pCons (pD (pK (.int 9))) pNil))))))
    (ρ := [s0, .d (.list (D.map .int)), .d (.int L.length), .d (.int unit), s4, s5, s6, s7, .d (.int (turn : Int)), s9, s10, s11, s12, s13, s14]) (fun (i : Nat) => PyData.int (0 + (i : Int))) (fun _ (y : Int) => 0 ≤ y) PyData.int (List.range L.length) (by
      intro i hi
      obtain ⟨p, p0, p1, pe⟩ := pick_ok hD (at' := 53 + (L.length : Int) * (turn : Int) + i) (many := 9) (by omega) (by omega) (by omega)
      have e2 : fMul (.int unit) (.int p) = some (.int (unit * p)) := ev_mul_r (by omega)
      refine ⟨_, unit * p, rfl, rfl, ?_, Int.mul_nonneg (by omega) p0⟩
      rw [Int.zero_add]
      simp [em, pe, e2])
  rw [List.length_range] at k2
  refine ⟨S, ⟨k2, fun s hs => ?_⟩, k1⟩
  obtain ⟨_, _, k⟩ := k3 s hs
  exact k
end K70

set_option Elab.async false
set_option linter.all false
set_option maxRecDepth 100000
set_option maxHeartbeats 2000000
namespace K70
open PySem L2 Sm
theorem gs_set {L : List Lf} {S : List Int} (h : GS L S) (n : Nat) {x : Int} (hx : 0 ≤ x) : GS L (S.set n x) := ⟨by rw [List.length_set]; exact h.len, fun s hs => by
  rcases List.mem_or_eq_of_mem_set hs with k | rfl
  · exact h.nn s k
  · exact hx⟩
theorem law_true (ns : List Int) (_h : ns.length ≤ 63) : p_law [.scr ns] = .ok (.bool true) := by
  rw [p_law, run1, q_law]
  obtain ⟨D, hD, eD⟩ := draws_ok ns
  obtain ⟨k0, k00, k01, ek0⟩ := pick_ok hD (at' := 0) (many := 6) (by omega) (by omega) (by omega)
  obtain ⟨k1, k10, k11, ek1⟩ := pick_ok hD (at' := 1) (many := 5) (by omega) (by omega) (by omega)
  obtain ⟨kf, kf0, ekf⟩ := far_ok hD (at' := 2) (by omega)
  obtain ⟨unit, hu, eu⟩ : ∃ unit : Int, 1 ≤ unit ∧ unit = if k1 = 1 then 1 + kf else 1 := ⟨_, by split <;> omega, rfl⟩
  obtain ⟨L, hL, hlen, eL⟩ := lives_ok hD hu (many := 1 + k0) (by omega) (by omega)
  have l6 : L.length ≤ 6 := by omega
  have pos := List.length_pos_iff.mpr hL.ne
  have gA := hL.g.all
  have mk := make_good hL.g hL.ne false false
  have lk := looked_ok hL
  have ha := handed_ok (L := L)
  have sq : sqOf (livL L) = .ok (false, L.map lifeD) := rfl
  have gsS := stk_gs gA
  have stS := lstart_ok hL gsS
  have plS := isp_ok hL gsS false
  rw [stk_plc hL.g] at plS
  have wrS := wrongs_ok hL gsS
  have rf := refus_ok hL (by omega)
  show endF (qSeq _ _ [.scr ns, .un, .un, .un, .un, .un, .un, .un, .un, .un, .un, .un, .un, .un, .un]) = _
  refine seq_nx [.scr ns, .d (.list (D.map .int)), .un, .un, .un, .un, .un, .un, .un, .un, .un, .un, .un, .un, .un] (by simp [eD]) ?_
  refine seq_nx [.scr ns, .d (.list (D.map .int)), .d (.int L.length), .un, .un, .un, .un, .un, .un, .un, .un, .un, .un, .un, .un] (by simp [ek0, hlen]) ?_
  refine seq_nx [.scr ns, .d (.list (D.map .int)), .d (.int L.length), .d (.int 1), .un, .un, .un, .un, .un, .un, .un, .un, .un, .un, .un] (by simp) ?_
  refine seq_nx [.scr ns, .d (.list (D.map .int)), .d (.int L.length), .d (.int unit), .un, .un, .un, .un, .un, .un, .un, .un, .un, .un, .un] (by
    rw [eu]
    by_cases c : k1 = 1
    · simp [ek1, ekf, c]
    · simp [ek1, c]) ?_
  refine seq_nx [.scr ns, .d (.list (D.map .int)), .d (.int L.length), .d (.int unit), .d (livL L), .un, .un, .un, .un, .un, .un, .un, .un, .un, .un] (by
    rw [← hlen] at eL
    simp [eL]) ?_
  refine seq_nx [.scr ns, .d (.list (D.map .int)), .d (.int L.length), .d (.int unit), .d (livL L), .fre (.list (L.map (itm false))), .un, .un, .un, .un, .un, .un, .un, .un, .un] (by
    have sm : L.length < 1000000 := by omega
    simp [sq, sm]
    rw [ha _ (by simp)]
    simp) ?_
  refine seq_nx [.scr ns, .d (.list (D.map .int)), .d (.int L.length), .d (.int unit), .d (livL L), .fre (.list (L.map (itm false))), .un, blk L, .un, .un, .un, .un, .un, .un, .un] (by
    have mk' : (p_m_uinit [.d (.list (L.map (itm false)))]).lfs = .ok [livT L, .int L.length] := mk
    simp [mk', blk]) ?_
  refine seq_nx [.scr ns, .d (.list (D.map .int)), .d (.int L.length), .d (.int unit), .d (livL L), .jnk, .un, blk L, .un, .un, .un, .un, .un, .un, .un] (by
    obtain ⟨l, L', rfl⟩ : ∃ l L', L = l :: L' := by
      cases L with
      | nil => simp at pos
      | cons l L' => exact ⟨l, L', rfl⟩
    have few := (gA l (by simp)).few
    have r : L'.length < 1000 := by simp at l6; omega
    unfold qPoke itm sqD
    simp [intsOf_map, few, r, isF, blk]) ?_
  refine seq_nx [.scr ns, .d (.list (D.map .int)), .d (.int L.length), .d (.int unit), .d (livL L), .un, .un, blk L, .un, .un, .un, .un, .un, .un, .un] (by
    unfold qApJ
    simp) ?_
  obtain ⟨ρ1, e1, s8, rfl⟩ := for_all (g := gName1 8) (q := (qIf (pNotT (pTest (pCall p_u_law_looked (pCons (pArg 7) (pCons (pArg 4) pNil))))) (qRet (pK (.bool false))) qNext)) (rngD 0 2)
    (fun _ ρ => ∃ s8, ρ = [.scr ns, .d (.list (D.map .int)), .d (.int L.length), .d (.int unit), .d (livL L), .un, .un, blk L, s8, .un, .un, .un, .un, .un, .un])
    [.scr ns, .d (.list (D.map .int)), .d (.int L.length), .d (.int unit), .d (livL L), .un, .un, blk L, .un, .un, .un, .un, .un, .un, .un] ⟨_, rfl⟩ (by
      rintro i x ρ hx ⟨s8, rfl⟩
      refine ⟨[.scr ns, .d (.list (D.map .int)), .d (.int L.length), .d (.int unit), .d (livL L), .un, .un, blk L, .d x, .un, .un, .un, .un, .un, .un], ?_, _, rfl⟩
      unfold blk at *
      simp [lk])
  refine seq_nx _ (by
    rw [ev_For, ev_iRg1, ev_K, R.bind_ok, rgK1_2, ev_bFl_ok]
    exact e1) ?_
  refine seq_nx [.scr ns, .d (.list (D.map .int)), .d (.int L.length), .d (.int unit), .d (livL L), .un, .un, blk L, s8, .own [], .un, .un, .un, .un, .un] (by simp) ?_
  refine seq_nx [.scr ns, .d (.list (D.map .int)), .d (.int L.length), .d (.int unit), .d (livL L), .un, .un, blk L, s8, .own [], .d (.int 0), .un, .un, .un, .un] (by simp) ?_
  obtain ⟨ρ2, e2, s6, rfl⟩ := for_all (g := gName1 6) (q := (qSeq (qApp 9 (pV 10))
  (qSet 10 (p2 fAdd (pV 10) (p2 fIx (pSeqOf (p2 fIx (pSq 6) (pK (.int 1)))) (pK (.int 0))))))) (L.map lifeD)
    (fun b ρ => ∃ s6, ρ = [.scr ns, .d (.list (D.map .int)), .d (.int L.length), .d (.int unit), .d (livL L), .un, s6, blk L, s8, .own ((stkL L b).map .int), .d (.int (stk L b)), .un, .un, .un, .un])
    [.scr ns, .d (.list (D.map .int)), .d (.int L.length), .d (.int unit), .d (livL L), .un, .un, blk L, s8, .own [], .d (.int 0), .un, .un, .un, .un] ⟨_, rfl⟩ (by
      rintro b x ρ hx ⟨s6, rfl⟩
      obtain ⟨l, h1, rfl⟩ := map_get hx
      have hb := get_lt h1
      have g := gA l (mem_at h1)
      have sm : (stkL L b).length < 1000000 := by unfold stkL; rw [List.length_map, List.length_range]; omega
      refine ⟨[.scr ns, .d (.list (D.map .int)), .d (.int L.length), .d (.int unit), .d (livL L), .un, .d (lifeD l), blk L, s8, .own ((stkL L (b + 1)).map .int), .d (.int (stk L (b + 1))), .un, .un, .un, .un], ?_, _, rfl⟩
      rw [stkL_step, stk_step h1]
      simp [sm, lifeD, atI_1, hd_ix g])
  rw [List.length_map] at e2
  refine seq_nx _ (by
    rw [ev_For, ev_iSq, ev_V]
    simp only [List.getElem?_cons_succ, List.getElem?_cons_zero, R.bind_ok, sq, ev_bFl_ok]
    exact e2) ?_
  rw [ev_Frz]
  simp only [List.getElem?_cons_succ, List.getElem?_cons_zero, List.set_cons_succ, List.set_cons_zero]
  refine seq_nx [.scr ns, .d (.list (D.map .int)), .d (.int L.length), .d (.int unit), .d (livL L), .un, s6, blk L, s8, .d (.list ((stkL L L.length).map .int)), .d (.int (stk L L.length)), .un, .un, .un, .un] (by
    have plS' : p_is_placing [blk L, .d (.list ((stkL L L.length).map .int))] = .ok (.bool true) := plS
    unfold blk at *
    simp [stS, plS']) ?_
  obtain ⟨ρ3, e3, t8, t11, t12, t13, rfl⟩ := for_all (g := gName1 8) (q := (qSeq (qSet 11 (pList (pLc (iRg1 (pV 2)) (gName1 12) (pK true) (p2 fMul (pV 3) (pCall p_u_law_pick (pCons (pArg 1) (pCons (pD (p2 fAdd (p2 fAdd (pK (.int 53)) (p2 fMul (pV 2) (pV 8))) (pV 12))) (pCons (pD (pK (.int 9))) pNil))))) [12])))
  (qSeq (qIf (pNotT (pTest (pCall p_u_law_started (pCons (pArg 7) (pCons (pArg 4) (pCons (pArg 11) pNil)))))) (qRet (pK (.bool false))) qNext)
  (qSeq (qSetN 13 (p1 fList (pSq 9)))
  (qSeq (qStore 13 (p2 fMax2 (pK (.int 0)) (p2 fSub (p2 fIx (pSq 13) (p2 fMod (p1 fInt1 (p2 fAdd (pV 8) (pV 2))) (pV 2))) (pK (.int 1)))) (p2 fMod (p1 fInt1 (p2 fAdd (pV 8) (pV 2))) (pV 2)))
  (qFrz 13 (qIf (pNotT (pTest (pCall p_u_law_started (pCons (pArg 7) (pCons (pArg 4) (pCons (pArg 13) pNil)))))) (qRet (pK (.bool false))) qNext))))))) (rngD 0 3)
    (fun _ ρ => ∃ t8 t11 t12 t13, ρ = [.scr ns, .d (.list (D.map .int)), .d (.int L.length), .d (.int unit), .d (livL L), .un, s6, blk L, t8, .d (.list ((stkL L L.length).map .int)), .d (.int (stk L L.length)), t11, t12, t13, .un])
    [.scr ns, .d (.list (D.map .int)), .d (.int L.length), .d (.int unit), .d (livL L), .un, s6, blk L, s8, .d (.list ((stkL L L.length).map .int)), .d (.int (stk L L.length)), .un, .un, .un, .un] ⟨_, _, _, _, rfl⟩ (by
      rintro turn x ρ hx ⟨t8, t11, t12, t13, rfl⟩
      obtain ⟨ht, rfl⟩ := rng_get hx
      obtain ⟨S, gS, eS⟩ := drawn_ok hD hu l6 turn (.scr ns) (.d (livL L)) .un s6 (blk L) (.d (.list ((stkL L L.length).map .int))) (.d (.int (stk L L.length))) t11 .un t13 .un
      have st1 := lstart_ok hL gS
      have i0 := Int.fmod_nonneg_of_pos ((turn : Int) + L.length) (b := (L.length : Int)) (by omega)
      have i1 := Int.fmod_lt_of_pos ((turn : Int) + L.length) (b := (L.length : Int)) (by omega)
      have em : fMod (.int ((turn : Int) + L.length)) (.int L.length) = some (.int (((turn : Int) + L.length).fmod L.length)) := ev_mod (by omega)
      revert i0 i1 em
      generalize ((turn : Int) + L.length).fmod L.length = ix
      intro i0 i1 em
      have sl : (stkL L L.length).length = L.length := gsS.len
      obtain ⟨v, hv⟩ := get_of (xs := stkL L L.length) (i := ix.toNat) (by omega)
      have ev : atI ((stkL L L.length).map PyData.int) ix = some (.int v) := by rw [atI_map, atI_at i0, hv]; rfl
      have ei : ixN (stkL L L.length).length ix = some ix.toNat := by
        unfold ixN
        rw [if_pos i0, if_pos (by omega)]
      have gC := gs_set gsS ix.toNat (x := max 0 (v - 1)) (by omega)
      have st2 := lstart_ok hL gC
      rw [List.map_set] at st2
      have rr := rgK1_n (show L.length ≤ 1000000 by omega)
      have sm : L.length < 1000000 := by omega
      refine ⟨[.scr ns, .d (.list (D.map .int)), .d (.int L.length), .d (.int unit), .d (livL L), .un, s6, blk L, .d (.int turn), .d (.list ((stkL L L.length).map .int)), .d (.int (stk L L.length)), .d (.list (S.map .int)), t12, .d (.list (((stkL L L.length).map .int).set ix.toNat (.int (max 0 (v - 1))))), .un], ?_, _, _, _, _, rfl⟩
      rw [Int.zero_add]
      unfold blk at *
      simp [rr, rngD_len, sm, eS, st1, em, ev, ei, st2])
  refine seq_nx _ (by
    rw [ev_For, ev_iRg1, ev_K, R.bind_ok, rgK1_3, ev_bFl_ok]
    exact e3) ?_
  refine seq_nx [.scr ns, .d (.list (D.map .int)), .d (.int L.length), .d (.int unit), .d (livL L), .un, s6, blk L, t8, .d (.list ((stkL L L.length).map .int)), .d (.int (stk L L.length)), t11, t12, t13, .un] (by
    unfold blk at *
    simp [wrS]) ?_
  obtain ⟨ρ4, e4, t14, rfl⟩ := for_all (g := gName1 14) (q := (qSeq (qIf (pOrT (pTest (p2 fNe (pCall p_u_law_number (pCons (pArg 7) (pCons (pArg 14) (pCons (pArg 2) (pCons (pArg 2) pNil))))) (pK (.str "b")))) (pTest (p2 fNe (pCall p_u_law_number (pCons (pArg 7) (pCons (pArg 14) (pCons (pD (pK (.int 0))) (pCons (pD (p1 fNeg (pK (.int 1)))) pNil))))) (pK (.str "c"))))) (qRet (pK (.bool false))) qNext)
  (qIf (pOrT (pTest (p2 fNe (pCall p_u_law_number (pCons (pArg 7) (pCons (pArg 14) (pCons (pD (pK (.bool true))) (pCons (pD (pK (.int 0))) pNil))))) (pK (.str "b")))) (pTest (p2 fNe (pCall p_u_law_number (pCons (pArg 7) (pCons (pArg 14) (pCons (pD (pK (.int 0))) (pCons (pArg 2) pNil))))) (pK (.str "c"))))) (qRet (pK (.bool false))) qNext))) (rngD 0 2)
    (fun _ ρ => ∃ t14, ρ = [.scr ns, .d (.list (D.map .int)), .d (.int L.length), .d (.int unit), .d (livL L), .un, s6, blk L, t8, .d (.list ((stkL L L.length).map .int)), .d (.int (stk L L.length)), t11, t12, t13, t14])
    [.scr ns, .d (.list (D.map .int)), .d (.int L.length), .d (.int unit), .d (livL L), .un, s6, blk L, t8, .d (.list ((stkL L L.length).map .int)), .d (.int (stk L L.length)), t11, t12, t13, .un] ⟨_, rfl⟩ (by
      rintro i x ρ hx ⟨t14, rfl⟩
      obtain ⟨hi, rfl⟩ := rng_get hx
      obtain ⟨n1, n2, n3, n4⟩ := nums hL.ne i hi
      refine ⟨[.scr ns, .d (.list (D.map .int)), .d (.int L.length), .d (.int unit), .d (livL L), .un, s6, blk L, t8, .d (.list ((stkL L L.length).map .int)), .d (.int (stk L L.length)), t11, t12, t13, .d (.int i)], ?_, _, rfl⟩
      rw [Int.zero_add]
      unfold blk at *
      simp [n1, n2, n3, n4, ne_str ok_b, ne_str ok_c])
  refine seq_nx _ (by
    rw [ev_For, ev_iRg1, ev_K, R.bind_ok, rgK1_2, ev_bFl_ok]
    exact e4) ?_
  obtain ⟨n1, n2⟩ := nums2 hL.ne
  refine seq_nx [.scr ns, .d (.list (D.map .int)), .d (.int L.length), .d (.int unit), .d (livL L), .un, s6, blk L, t8, .d (.list ((stkL L L.length).map .int)), .d (.int (stk L L.length)), t11, t12, t13, t14] (by
    unfold blk at *
    simp [n1, n2, ne_str ok_b, ne_str ok_moment]) ?_
  simp [rf]
end K70

set_option Elab.async false
set_option linter.all false
set_option maxRecDepth 100000
set_option maxHeartbeats 4000000
namespace K70
open PySem PySem.Spec PyProof.Rows L2 Sm
theorem exm_self {K : PySem.W.Frag} {S : Addr} (h1 : PySem.W.subIn K (.ref S) (.type "BaseException") = some true) (h2 : PySem.W.isClsIn K S = true) (h3 : PySem.W.typeIn K (.ref S) = some (.type "type")) (h4 : PySem.W.subIn K (.ref S) (.ref S) = some true) :
    PySem.W.exmOne K (.ref S) (.ref S) = some true := by
  have e1 : (PySem.W.subIn K (.ref S) (.type "BaseException") == some true) = true := by rw [h1] <;> rfl
  have e2 : ((PySem.W.clsIn K S).isSome && PySem.W.typeIn K (.ref S) == some (.type "type")) = true := by
    have h2' : (PySem.W.clsIn K S).isSome = true := h2
    rw [h2', h3] <;> rfl
  show (if (PySem.W.subIn K (.ref S) (.type "BaseException") == some true) = true then (if ((PySem.W.clsIn K S).isSome && PySem.W.typeIn K (.ref S) == some (.type "type")) = true then PySem.W.subIn K (.ref S) (.ref S) else none) else none) = some true
  rw [if_pos e1, if_pos e2]
  exact h4
theorem ve_tail (a : Addr) : PySem.HandSPX.refsVE [.ref a, .type "ValueError", .type "Exception", .type "BaseException", .type "object"] = true := by
  show PySem.HandSPX.refsVE [.type "ValueError", .type "Exception", .type "BaseException", .type "object"] = true
  decide +kernel
def spLaw (K : PySem.W.Frag) : Sp := fun vs H Q _ => ∃ (a : Addr) (ns : List Int), vs = [.ref a] ∧ SqL K H a (ns.map V.int) ∧ ns.length ≤ 63 ∧ ∀ H', Q (.bl true) H'
theorem law_sp {c : Cf} {K : PySem.W.Frag} (hK : c.K = K) (vs : List V) (H : Hp) (Q : VK) (E : XK) (h : spLaw K vs H Q E) : spF c p_law vs H Q E := by
  obtain ⟨a, ns, rfl, h1, h2, k⟩ := h
  refine ⟨H, [.scr ns], Same.refl H, .cons ⟨a, rfl, by rw [hK]; exact h1⟩ .nil, ?_⟩
  rw [law_true ns h2]
  intro v G' H' s q
  have := Rp.ofBool q
  subst this
  exact k H'
theorem all_mk {P : Program} {w : World} {K : PySem.W.Frag} {h : Heap} {mg : Str → Option Value} {fa C CN CV CS CS2 gN gV f0 f1 f2 f3 f4 f5 f6 f7 f8 f9 f10 f11 f12 f13 f14 f15 f16 f17 f18 f19 f20 f21 f22 f23 f24 f25 f26 f27 f28 f29 f30 f31 f32 f33 f34 f35 f36 : Addr} (X : K.In h) (G : h.Ns mainGlobals mg) (hfa : mg "law" = some (.ref fa))
    {od0 an0 od1 an1 od2 an2 od3 an3 od4 an4 od5 an5 od6 an6 od7 an7 od8 an8 od9 an9 od10 an10 od11 an11 od12 an12 od13 an13 od14 an14 od15 an15 od16 an16 od17 an17 od18 an18 od19 an19 od20 an20 od21 an21 od22 an22 od23 an23 od24 an24 od25 an25 od26 an26 od27 an27 od28 an28 od29 an29 od30 an30 od31 an31 od32 an32 od33 an33 od34 an34 od35 an35 od36 an36 : Option Addr} {sl0 sl1 sl2 sl3 sl4 sl5 sl6 sl7 sl8 sl9 sl10 sl11 sl12 sl13 sl14 sl15 sl16 sl17 sl18 sl19 sl20 sl21 sl22 sl23 sl24 sl25 sl26 sl27 sl28 sl29 sl30 sl31 sl32 sl33 sl34 sl35 sl36 : Array (Option Value)} {oc0 kV0 dc0 pm0 cd0 ct0 oc1 kV1 dc1 pm1 cd1 ct1 oc2 kV2 dc2 pm2 cd2 ct2 oc3 kV3 dc3 pm3 cd3 ct3 oc4 kV4 dc4 pm4 cd4 ct4 oc5 kV5 dc5 pm5 cd5 ct5 oc6 kV6 dc6 pm6 cd6 ct6 oc7 kV7 dc7 pm7 cd7 ct7 oc8 kV8 dc8 pm8 cd8 ct8 oc9 kV9 dc9 pm9 cd9 ct9 oc10 kV10 dc10 pm10 cd10 ct10 oc11 kV11 dc11 pm11 cd11 ct11 oc12 kV12 dc12 pm12 cd12 ct12 oc13 kV13 dc13 pm13 cd13 ct13 oc14 kV14 dc14 pm14 cd14 ct14 oc15 kV15 dc15 pm15 cd15 ct15 oc16 kV16 dc16 pm16 cd16 ct16 oc17 kV17 dc17 pm17 cd17 ct17 oc18 kV18 dc18 pm18 cd18 ct18 oc19 kV19 dc19 pm19 cd19 ct19 oc20 kV20 dc20 pm20 cd20 ct20 oc21 kV21 dc21 pm21 cd21 ct21 oc22 kV22 dc22 pm22 cd22 ct22 oc23 kV23 dc23 pm23 cd23 ct23 oc24 kV24 dc24 pm24 cd24 ct24 oc25 kV25 dc25 pm25 cd25 ct25 oc26 kV26 dc26 pm26 cd26 ct26 oc27 kV27 dc27 pm27 cd27 ct27 oc28 kV28 dc28 pm28 cd28 ct28 oc29 kV29 dc29 pm29 cd29 ct29 oc30 kV30 dc30 pm30 cd30 ct30 oc31 kV31 dc31 pm31 cd31 ct31 oc32 kV32 dc32 pm32 cd32 ct32 oc33 kV33 dc33 pm33 cd33 ct33 oc34 kV34 dc34 pm34 cd34 ct34 oc35 kV35 dc35 pm35 cd35 ct35 oc36 kV36 dc36 pm36 cd36 ct36 : Value}
    {nmN qN : Str} {NN : Addr} {bsN : List Value} {snN : List Str} {subN : List Value} {abN : Bool} {colN : Option Bool} {ddN : Option Addr} {m0N m1N m2N m3N m5N : Option Value} {odxN anxN : Option Addr} {slxN : Array (Option Value)} {ocxN dcxN pmxN cdxN ctxN : Value}
    {nmV qV : Str} {NV : Addr} {bsV : List Value} {snV : List Str} {subV : List Value} {abV : Bool} {colV : Option Bool} {ddV : Option Addr} {m0V m1V m2V m3V m5V : Option Value} {odxV anxV : Option Addr} {slxV : Array (Option Value)} {ocxV dcxV pmxV cdxV ctxV : Value}
    {t_MOST_LIVES : Tok}
    (aC : PySem.W.nsIn K mainGlobals "Blocks" = some (some (.ref C)))
    (aCN : PySem.W.nsIn K mainGlobals "BadNumber" = some (some (.ref CN)))
    (aCV : PySem.W.nsIn K mainGlobals "BadValue" = some (some (.ref CV)))
    (a0 : PySem.W.nsIn K mainGlobals "is_whole" = some (some (.ref f0)))
    (l0 : K.lookup f0 = some ⟨oc0, od0, .func (PySem.W.fnOf "is_whole" "is_whole" (defArgs st_is_whole) (defBody st_is_whole) (defScope st_is_whole) .none kV0 dc0 pm0 an0 cd0 ct0), sl0⟩)
    (c0 : PySem.W.codeIn K cd0 "is_whole" = true)
    (k0 : PySem.W.keepIn K (.ref f0) = true)
    (a1 : PySem.W.nsIn K mainGlobals "is_life" = some (some (.ref f1)))
    (l1 : K.lookup f1 = some ⟨oc1, od1, .func (PySem.W.fnOf "is_life" "is_life" (defArgs st_is_life) (defBody st_is_life) (defScope st_is_life) .none kV1 dc1 pm1 an1 cd1 ct1), sl1⟩)
    (c1 : PySem.W.codeIn K cd1 "is_life" = true)
    (k1 : PySem.W.keepIn K (.ref f1) = true)
    (a2 : PySem.W.findIn K (.ref C) "__init__" = some (some (.ref f2)))
    (i2 : PySem.W.isFn K (.ref f2) = true)
    (l2 : K.lookup f2 = some ⟨oc2, od2, .func (PySem.W.fnOf "__init__" "Blocks.__init__" (defArgs st_m_uinit) (defBody st_m_uinit) (defScope st_m_uinit) .none kV2 dc2 pm2 an2 cd2 ct2), sl2⟩)
    (c2 : PySem.W.codeIn K cd2 "Blocks.__init__" = true)
    (k2 : PySem.W.keepIn K (.ref f2) = true)
    (a3 : PySem.W.findIn K (.ref C) "check_block" = some (some (.ref f3)))
    (i3 : PySem.W.isFn K (.ref f3) = true)
    (l3 : K.lookup f3 = some ⟨oc3, od3, .func (PySem.W.fnOf "check_block" "Blocks.check_block" (defArgs st_m_check_block) (defBody st_m_check_block) (defScope st_m_check_block) .none kV3 dc3 pm3 an3 cd3 ct3), sl3⟩)
    (c3 : PySem.W.codeIn K cd3 "Blocks.check_block" = true)
    (k3 : PySem.W.keepIn K (.ref f3) = true)
    (a4 : PySem.W.nsIn K mainGlobals "ending" = some (some (.ref f4)))
    (l4 : K.lookup f4 = some ⟨oc4, od4, .func (PySem.W.fnOf "ending" "ending" (defArgs st_ending) (defBody st_ending) (defScope st_ending) .none kV4 dc4 pm4 an4 cd4 ct4), sl4⟩)
    (c4 : PySem.W.codeIn K cd4 "ending" = true)
    (k4 : PySem.W.keepIn K (.ref f4) = true)
    (a5 : PySem.W.nsIn K mainGlobals "first_meeting" = some (some (.ref f5)))
    (l5 : K.lookup f5 = some ⟨oc5, od5, .func (PySem.W.fnOf "first_meeting" "first_meeting" (defArgs st_first_meeting) (defBody st_first_meeting) (defScope st_first_meeting) .none kV5 dc5 pm5 an5 cd5 ct5), sl5⟩)
    (c5 : PySem.W.codeIn K cd5 "first_meeting" = true)
    (k5 : PySem.W.keepIn K (.ref f5) = true)
    (a6 : PySem.W.findIn K (.ref C) "meeting" = some (some (.ref f6)))
    (i6 : PySem.W.isFn K (.ref f6) = true)
    (l6 : K.lookup f6 = some ⟨oc6, od6, .func (PySem.W.fnOf "meeting" "Blocks.meeting" (defArgs st_m_meeting) (defBody st_m_meeting) (defScope st_m_meeting) .none kV6 dc6 pm6 an6 cd6 ct6), sl6⟩)
    (c6 : PySem.W.codeIn K cd6 "Blocks.meeting" = true)
    (k6 : PySem.W.keepIn K (.ref f6) = true)
    (a7 : PySem.W.findIn K (.ref C) "length_then" = some (some (.ref f7)))
    (i7 : PySem.W.isFn K (.ref f7) = true)
    (l7 : K.lookup f7 = some ⟨oc7, od7, .func (PySem.W.fnOf "length_then" "Blocks.length_then" (defArgs st_m_length_then) (defBody st_m_length_then) (defScope st_m_length_then) .none kV7 dc7 pm7 an7 cd7 ct7), sl7⟩)
    (c7 : PySem.W.codeIn K cd7 "Blocks.length_then" = true)
    (k7 : PySem.W.keepIn K (.ref f7) = true)
    (a8 : PySem.W.nsIn K mainGlobals "meeting_length" = some (some (.ref f8)))
    (l8 : K.lookup f8 = some ⟨oc8, od8, .func (PySem.W.fnOf "meeting_length" "meeting_length" (defArgs st_meeting_length) (defBody st_meeting_length) (defScope st_meeting_length) .none kV8 dc8 pm8 an8 cd8 ct8), sl8⟩)
    (c8 : PySem.W.codeIn K cd8 "meeting_length" = true)
    (k8 : PySem.W.keepIn K (.ref f8) = true)
    (a9 : PySem.W.findIn K (.ref C) "len_pair" = some (some (.ref f9)))
    (i9 : PySem.W.isFn K (.ref f9) = true)
    (l9 : K.lookup f9 = some ⟨oc9, od9, .func (PySem.W.fnOf "len_pair" "Blocks.len_pair" (defArgs st_m_len_pair) (defBody st_m_len_pair) (defScope st_m_len_pair) .none kV9 dc9 pm9 an9 cd9 ct9), sl9⟩)
    (c9 : PySem.W.codeIn K cd9 "Blocks.len_pair" = true)
    (k9 : PySem.W.keepIn K (.ref f9) = true)
    (a10 : PySem.W.nsIn K mainGlobals "meeting_pairs" = some (some (.ref f10)))
    (l10 : K.lookup f10 = some ⟨oc10, od10, .func (PySem.W.fnOf "meeting_pairs" "meeting_pairs" (defArgs st_meeting_pairs) (defBody st_meeting_pairs) (defScope st_meeting_pairs) .none kV10 dc10 pm10 an10 cd10 ct10), sl10⟩)
    (c10 : PySem.W.codeIn K cd10 "meeting_pairs" = true)
    (k10 : PySem.W.keepIn K (.ref f10) = true)
    (a11 : PySem.W.findIn K (.ref C) "pairs" = some (some (.ref f11)))
    (i11 : PySem.W.isFn K (.ref f11) = true)
    (l11 : K.lookup f11 = some ⟨oc11, od11, .func (PySem.W.fnOf "pairs" "Blocks.pairs" (defArgs st_m_pairs) (defBody st_m_pairs) (defScope st_m_pairs) .none kV11 dc11 pm11 an11 cd11 ct11), sl11⟩)
    (c11 : PySem.W.codeIn K cd11 "Blocks.pairs" = true)
    (k11 : PySem.W.keepIn K (.ref f11) = true)
    (a12 : PySem.W.nsIn K mainGlobals "lengths_then" = some (some (.ref f12)))
    (l12 : K.lookup f12 = some ⟨oc12, od12, .func (PySem.W.fnOf "lengths_then" "lengths_then" (defArgs st_lengths_then) (defBody st_lengths_then) (defScope st_lengths_then) .none kV12 dc12 pm12 an12 cd12 ct12), sl12⟩)
    (c12 : PySem.W.codeIn K cd12 "lengths_then" = true)
    (k12 : PySem.W.keepIn K (.ref f12) = true)
    (a13 : PySem.W.findIn K (.ref C) "heaviest" = some (some (.ref f13)))
    (i13 : PySem.W.isFn K (.ref f13) = true)
    (l13 : K.lookup f13 = some ⟨oc13, od13, .func (PySem.W.fnOf "heaviest" "Blocks.heaviest" (defArgs st_m_heaviest) (defBody st_m_heaviest) (defScope st_m_heaviest) .none kV13 dc13 pm13 an13 cd13 ct13), sl13⟩)
    (c13 : PySem.W.codeIn K cd13 "Blocks.heaviest" = true)
    (k13 : PySem.W.keepIn K (.ref f13) = true)
    (a14 : PySem.W.nsIn K mainGlobals "wrong_start" = some (some (.ref f14)))
    (l14 : K.lookup f14 = some ⟨oc14, od14, .func (PySem.W.fnOf "wrong_start" "wrong_start" (defArgs st_wrong_start) (defBody st_wrong_start) (defScope st_wrong_start) .none kV14 dc14 pm14 an14 cd14 ct14), sl14⟩)
    (c14 : PySem.W.codeIn K cd14 "wrong_start" = true)
    (k14 : PySem.W.keepIn K (.ref f14) = true)
    (a15 : PySem.W.nsIn K mainGlobals "apart" = some (some (.ref f15)))
    (l15 : K.lookup f15 = some ⟨oc15, od15, .func (PySem.W.fnOf "apart" "apart" (defArgs st_apart) (defBody st_apart) (defScope st_apart) .none kV15 dc15 pm15 an15 cd15 ct15), sl15⟩)
    (c15 : PySem.W.codeIn K cd15 "apart" = true)
    (k15 : PySem.W.keepIn K (.ref f15) = true)
    (a16 : PySem.W.nsIn K mainGlobals "is_placing" = some (some (.ref f16)))
    (l16 : K.lookup f16 = some ⟨oc16, od16, .func (PySem.W.fnOf "is_placing" "is_placing" (defArgs st_is_placing) (defBody st_is_placing) (defScope st_is_placing) .none kV16 dc16 pm16 an16 cd16 ct16), sl16⟩)
    (c16 : PySem.W.codeIn K cd16 "is_placing" = true)
    (k16 : PySem.W.keepIn K (.ref f16) = true)
    (a17 : PySem.W.nsIn K mainGlobals "apart_pairs" = some (some (.ref f17)))
    (l17 : K.lookup f17 = some ⟨oc17, od17, .func (PySem.W.fnOf "apart_pairs" "apart_pairs" (defArgs st_apart_pairs) (defBody st_apart_pairs) (defScope st_apart_pairs) .none kV17 dc17 pm17 an17 cd17 ct17), sl17⟩)
    (c17 : PySem.W.codeIn K cd17 "apart_pairs" = true)
    (k17 : PySem.W.keepIn K (.ref f17) = true)
    (a18 : PySem.W.nsIn K mainGlobals "end_of" = some (some (.ref f18)))
    (l18 : K.lookup f18 = some ⟨oc18, od18, .func (PySem.W.fnOf "end_of" "end_of" (defArgs st_end_of) (defBody st_end_of) (defScope st_end_of) .none kV18 dc18 pm18 an18 cd18 ct18), sl18⟩)
    (c18 : PySem.W.codeIn K cd18 "end_of" = true)
    (k18 : PySem.W.keepIn K (.ref f18) = true)
    (a19 : PySem.W.nsIn K mainGlobals "_law_draws" = some (some (.ref f19)))
    (l19 : K.lookup f19 = some ⟨oc19, od19, .func (PySem.W.fnOf "_law_draws" "_law_draws" (defArgs st_u_law_draws) (defBody st_u_law_draws) (defScope st_u_law_draws) .none kV19 dc19 pm19 an19 cd19 ct19), sl19⟩)
    (c19 : PySem.W.codeIn K cd19 "_law_draws" = true)
    (k19 : PySem.W.keepIn K (.ref f19) = true)
    (a20 : PySem.W.nsIn K mainGlobals "_law_pick" = some (some (.ref f20)))
    (l20 : K.lookup f20 = some ⟨oc20, od20, .func (PySem.W.fnOf "_law_pick" "_law_pick" (defArgs st_u_law_pick) (defBody st_u_law_pick) (defScope st_u_law_pick) .none kV20 dc20 pm20 an20 cd20 ct20), sl20⟩)
    (c20 : PySem.W.codeIn K cd20 "_law_pick" = true)
    (k20 : PySem.W.keepIn K (.ref f20) = true)
    (a21 : PySem.W.nsIn K mainGlobals "_law_far" = some (some (.ref f21)))
    (l21 : K.lookup f21 = some ⟨oc21, od21, .func (PySem.W.fnOf "_law_far" "_law_far" (defArgs st_u_law_far) (defBody st_u_law_far) (defScope st_u_law_far) .none kV21 dc21 pm21 an21 cd21 ct21), sl21⟩)
    (c21 : PySem.W.codeIn K cd21 "_law_far" = true)
    (k21 : PySem.W.keepIn K (.ref f21) = true)
    (a22 : PySem.W.nsIn K mainGlobals "_law_lives" = some (some (.ref f22)))
    (l22 : K.lookup f22 = some ⟨oc22, od22, .func (PySem.W.fnOf "_law_lives" "_law_lives" (defArgs st_u_law_lives) (defBody st_u_law_lives) (defScope st_u_law_lives) .none kV22 dc22 pm22 an22 cd22 ct22), sl22⟩)
    (c22 : PySem.W.codeIn K cd22 "_law_lives" = true)
    (k22 : PySem.W.keepIn K (.ref f22) = true)
    (a23 : PySem.W.nsIn K mainGlobals "_law_length" = some (some (.ref f23)))
    (l23 : K.lookup f23 = some ⟨oc23, od23, .func (PySem.W.fnOf "_law_length" "_law_length" (defArgs st_u_law_length) (defBody st_u_law_length) (defScope st_u_law_length) .none kV23 dc23 pm23 an23 cd23 ct23), sl23⟩)
    (c23 : PySem.W.codeIn K cd23 "_law_length" = true)
    (k23 : PySem.W.keepIn K (.ref f23) = true)
    (a24 : PySem.W.nsIn K mainGlobals "_law_meeting" = some (some (.ref f24)))
    (l24 : K.lookup f24 = some ⟨oc24, od24, .func (PySem.W.fnOf "_law_meeting" "_law_meeting" (defArgs st_u_law_meeting) (defBody st_u_law_meeting) (defScope st_u_law_meeting) .none kV24 dc24 pm24 an24 cd24 ct24), sl24⟩)
    (c24 : PySem.W.codeIn K cd24 "_law_meeting" = true)
    (k24 : PySem.W.keepIn K (.ref f24) = true)
    (a25 : PySem.W.nsIn K mainGlobals "_law_apart" = some (some (.ref f25)))
    (l25 : K.lookup f25 = some ⟨oc25, od25, .func (PySem.W.fnOf "_law_apart" "_law_apart" (defArgs st_u_law_apart) (defBody st_u_law_apart) (defScope st_u_law_apart) .none kV25 dc25 pm25 an25 cd25 ct25), sl25⟩)
    (c25 : PySem.W.codeIn K cd25 "_law_apart" = true)
    (k25 : PySem.W.keepIn K (.ref f25) = true)
    (a26 : PySem.W.nsIn K mainGlobals "_law_placed" = some (some (.ref f26)))
    (l26 : K.lookup f26 = some ⟨oc26, od26, .func (PySem.W.fnOf "_law_placed" "_law_placed" (defArgs st_u_law_placed) (defBody st_u_law_placed) (defScope st_u_law_placed) .none kV26 dc26 pm26 an26 cd26 ct26), sl26⟩)
    (c26 : PySem.W.codeIn K cd26 "_law_placed" = true)
    (k26 : PySem.W.keepIn K (.ref f26) = true)
    (a27 : PySem.W.nsIn K mainGlobals "_law_heaviest" = some (some (.ref f27)))
    (l27 : K.lookup f27 = some ⟨oc27, od27, .func (PySem.W.fnOf "_law_heaviest" "_law_heaviest" (defArgs st_u_law_heaviest) (defBody st_u_law_heaviest) (defScope st_u_law_heaviest) .none kV27 dc27 pm27 an27 cd27 ct27), sl27⟩)
    (c27 : PySem.W.codeIn K cd27 "_law_heaviest" = true)
    (k27 : PySem.W.keepIn K (.ref f27) = true)
    (a28 : PySem.W.nsIn K mainGlobals "_law_end" = some (some (.ref f28)))
    (l28 : K.lookup f28 = some ⟨oc28, od28, .func (PySem.W.fnOf "_law_end" "_law_end" (defArgs st_u_law_end) (defBody st_u_law_end) (defScope st_u_law_end) .none kV28 dc28 pm28 an28 cd28 ct28), sl28⟩)
    (c28 : PySem.W.codeIn K cd28 "_law_end" = true)
    (k28 : PySem.W.keepIn K (.ref f28) = true)
    (a29 : PySem.W.nsIn K mainGlobals "_law_number" = some (some (.ref f29)))
    (l29 : K.lookup f29 = some ⟨oc29, od29, .func (PySem.W.fnOf "_law_number" "_law_number" (defArgs st_u_law_number) (defBody st_u_law_number) (defScope st_u_law_number) .none kV29 dc29 pm29 an29 cd29 ct29), sl29⟩)
    (c29 : PySem.W.codeIn K cd29 "_law_number" = true)
    (k29 : PySem.W.keepIn K (.ref f29) = true)
    (a30 : PySem.W.nsIn K mainGlobals "_law_value" = some (some (.ref f30)))
    (l30 : K.lookup f30 = some ⟨oc30, od30, .func (PySem.W.fnOf "_law_value" "_law_value" (defArgs st_u_law_value) (defBody st_u_law_value) (defScope st_u_law_value) .none kV30 dc30 pm30 an30 cd30 ct30), sl30⟩)
    (c30 : PySem.W.codeIn K cd30 "_law_value" = true)
    (k30 : PySem.W.keepIn K (.ref f30) = true)
    (a31 : PySem.W.nsIn K mainGlobals "_law_no_pair" = some (some (.ref f31)))
    (l31 : K.lookup f31 = some ⟨oc31, od31, .func (PySem.W.fnOf "_law_no_pair" "_law_no_pair" (defArgs st_u_law_no_pair) (defBody st_u_law_no_pair) (defScope st_u_law_no_pair) .none kV31 dc31 pm31 an31 cd31 ct31), sl31⟩)
    (c31 : PySem.W.codeIn K cd31 "_law_no_pair" = true)
    (k31 : PySem.W.keepIn K (.ref f31) = true)
    (a32 : PySem.W.nsIn K mainGlobals "_law_looked" = some (some (.ref f32)))
    (l32 : K.lookup f32 = some ⟨oc32, od32, .func (PySem.W.fnOf "_law_looked" "_law_looked" (defArgs st_u_law_looked) (defBody st_u_law_looked) (defScope st_u_law_looked) .none kV32 dc32 pm32 an32 cd32 ct32), sl32⟩)
    (c32 : PySem.W.codeIn K cd32 "_law_looked" = true)
    (k32 : PySem.W.keepIn K (.ref f32) = true)
    (a33 : PySem.W.nsIn K mainGlobals "_law_started" = some (some (.ref f33)))
    (l33 : K.lookup f33 = some ⟨oc33, od33, .func (PySem.W.fnOf "_law_started" "_law_started" (defArgs st_u_law_started) (defBody st_u_law_started) (defScope st_u_law_started) .none kV33 dc33 pm33 an33 cd33 ct33), sl33⟩)
    (c33 : PySem.W.codeIn K cd33 "_law_started" = true)
    (k33 : PySem.W.keepIn K (.ref f33) = true)
    (a34 : PySem.W.nsIn K mainGlobals "_law_wrong_starts" = some (some (.ref f34)))
    (l34 : K.lookup f34 = some ⟨oc34, od34, .func (PySem.W.fnOf "_law_wrong_starts" "_law_wrong_starts" (defArgs st_u_law_wrong_starts) (defBody st_u_law_wrong_starts) (defScope st_u_law_wrong_starts) .none kV34 dc34 pm34 an34 cd34 ct34), sl34⟩)
    (c34 : PySem.W.codeIn K cd34 "_law_wrong_starts" = true)
    (k34 : PySem.W.keepIn K (.ref f34) = true)
    (a35 : PySem.W.nsIn K mainGlobals "_law_refusals" = some (some (.ref f35)))
    (l35 : K.lookup f35 = some ⟨oc35, od35, .func (PySem.W.fnOf "_law_refusals" "_law_refusals" (defArgs st_u_law_refusals) (defBody st_u_law_refusals) (defScope st_u_law_refusals) .none kV35 dc35 pm35 an35 cd35 ct35), sl35⟩)
    (c35 : PySem.W.codeIn K cd35 "_law_refusals" = true)
    (k35 : PySem.W.keepIn K (.ref f35) = true)
    (a36 : PySem.W.nsIn K mainGlobals "law" = some (some (.ref f36)))
    (l36 : K.lookup f36 = some ⟨oc36, od36, .func (PySem.W.fnOf "law" "law" (defArgs st_law) (defBody st_law) (defScope st_law) .none kV36 dc36 pm36 an36 cd36 ct36), sl36⟩)
    (c36 : PySem.W.codeIn K cd36 "law" = true)
    (k36 : PySem.W.keepIn K (.ref f36) = true)
    (pgC : PySem.W.plainGet K C Str.empty = true)
    (hdC : PySem.W.hasDictIn K C = true)
    (poC : PySem.W.plainOver K C = true)
    (saC : PySem.W.findIn K (.ref C) "__setattr__" = some (some (.builtin "object.__setattr__")))
    (mkC : PySem.W.makesIn K C = true)
    (kcC : PySem.W.keepIn K (.ref C) = true)
    (nL : PySem.W.findIn K (.ref C) "lives" = some none)
    (nM : PySem.W.findIn K (.ref C) "many" = some none)
    (xN : K.lookup CN = some (excClassObj nmN qN CN NN bsN [.ref CS, .type "ValueError", .type "Exception", .type "BaseException", .type "object"] true snN subN abN colN ddN m0N m1N m2N m3N m5N "ValueError.__new__"))
    (saN : PySem.W.findIn K (.ref CN) "__setattr__" = some (some (.builtin "object.__setattr__")))
    (gaN : PySem.W.findIn K (.ref CN) "__getattribute__" = some (some (.builtin "BaseException.__getattribute__")))
    (ggN : PySem.W.findIn K (.ref CN) "__getattr__" = some none)
    (nbN : PySem.W.findIn K (.ref CN) "name" = some none)
    (aiN : PySem.W.findIn K (.ref CN) "__init__" = some (some (.ref gN)))
    (t1N : PySem.W.typeIn K (.ref gN) = some (.type "function"))
    (l1N : K.lookup gN = some ⟨ocxN, odxN, .func (PySem.W.fnOf "__init__" "BadNumber.__init__" (PySem.LowNX.iA ⟨6, 17, 6, 21⟩ ⟨6, 23, 6, 27⟩) (PySem.LowNX.iB ⟨7, 8, 7, 12⟩ ⟨7, 8, 7, 17⟩ ⟨7, 20, 7, 24⟩ ⟨7, 8, 7, 24⟩) PySem.LowNX.iS .none .none dcxN pmxN anxN cdxN ctxN), slxN⟩)
    (c1N : PySem.W.codeIn K cdxN "BadNumber.__init__" = true)
    (kCN : PySem.W.keepIn K (.ref CN) = true)
    (eCN : PySem.W.subIn K (.ref CN) (.type "BaseException") = some true)
    (tCN : PySem.W.typeIn K (.ref CN) = some (.type "type"))
    (hCN : PySem.W.hasDictIn K CN = true)
    (iCN : PySem.W.isClsIn K CN = true)
    (sCN : PySem.W.subIn K (.ref CN) (.ref CN) = some true)
    (xV : K.lookup CV = some (excClassObj nmV qV CV NV bsV [.ref CS2, .type "ValueError", .type "Exception", .type "BaseException", .type "object"] true snV subV abV colV ddV m0V m1V m2V m3V m5V "ValueError.__new__"))
    (saV : PySem.W.findIn K (.ref CV) "__setattr__" = some (some (.builtin "object.__setattr__")))
    (gaV : PySem.W.findIn K (.ref CV) "__getattribute__" = some (some (.builtin "BaseException.__getattribute__")))
    (ggV : PySem.W.findIn K (.ref CV) "__getattr__" = some none)
    (nbV : PySem.W.findIn K (.ref CV) "place" = some none)
    (aiV : PySem.W.findIn K (.ref CV) "__init__" = some (some (.ref gV)))
    (t1V : PySem.W.typeIn K (.ref gV) = some (.type "function"))
    (l1V : K.lookup gV = some ⟨ocxV, odxV, .func (PySem.W.fnOf "__init__" "BadValue.__init__" (PySem.LowVX.iA ⟨10, 17, 10, 21⟩ ⟨10, 23, 10, 28⟩) (PySem.LowVX.iB ⟨11, 8, 11, 12⟩ ⟨11, 8, 11, 18⟩ ⟨11, 21, 11, 26⟩ ⟨11, 8, 11, 26⟩) PySem.LowVX.iS .none .none dcxV pmxV anxV cdxV ctxV), slxV⟩)
    (c1V : PySem.W.codeIn K cdxV "BadValue.__init__" = true)
    (kCV : PySem.W.keepIn K (.ref CV) = true)
    (eCV : PySem.W.subIn K (.ref CV) (.type "BaseException") = some true)
    (tCV : PySem.W.typeIn K (.ref CV) = some (.type "type"))
    (hCV : PySem.W.hasDictIn K CV = true)
    (iCV : PySem.W.isClsIn K CV = true)
    (sCV : PySem.W.subIn K (.ref CV) (.ref CV) = some true)
    (v_MOST_LIVES : PySem.W.nsIn K mainGlobals "MOST_LIVES" = some (some (.int 24 t_MOST_LIVES)))
    (b_len : PySem.W.nsIn K mainGlobals "len" = some none)
    (b_range : PySem.W.nsIn K mainGlobals "range" = some none)
    (b_max : PySem.W.nsIn K mainGlobals "max" = some none)
    (b_min : PySem.W.nsIn K mainGlobals "min" = some none)
    (b_isinstance : PySem.W.nsIn K mainGlobals "isinstance" = some none)
    (b_tuple : PySem.W.nsIn K mainGlobals "tuple" = some none)
    (b_list : PySem.W.nsIn K mainGlobals "list" = some none)
    (b_int : PySem.W.nsIn K mainGlobals "int" = some none)
    (b_bool : PySem.W.nsIn K mainGlobals "bool" = some none)
    (b_abs : PySem.W.nsIn K mainGlobals "abs" = some none)
    (b_enumerate : PySem.W.nsIn K mainGlobals "enumerate" = some none)
    (b_sum : PySem.W.nsIn K mainGlobals "sum" = some none) :
    ∃ fd : FuncData, (∀ (s : Shared) (v : Value), BindsTo s fd ⟨[v], []⟩ [("script", v)]) ∧ ∀ base : Heap, K.In base → base.Ns mainGlobals mg → FnOk P w K mg base (L2.CX P w) 8 fa fd ["script"] (spLaw K) := by
  have e := hfa.symm.trans (PySem.W.mg_of X G a36)
  cases e
  have lowN : PySem.LowNX.LowNTxt K mg CN gN :=
    { gC := PySem.W.mg_of X G aCN, cls := ⟨nmN, qN, NN, bsN, _, snN, subN, abN, colN, ddN, m0N, m1N, m2N, m3N, m5N, xN, ve_tail _⟩, sa := saN, ga := gaN, gg := ggN, noN := nbN, iC := aiN, tC := t1N, kC := kCN, exC := eCN, tyC := tCN, hdC := hCN, te := exm_self eCN iCN tCN sCN,
      fn := ⟨_, _, _, _, _, _, _, _, _, _, _, _, _, _, l1N, c1N⟩ }
  have lowV : PySem.LowVX.LowVTxt K mg CV gV :=
    { gC := PySem.W.mg_of X G aCV, cls := ⟨nmV, qV, NV, bsV, _, snV, subV, abV, colV, ddV, m0V, m1V, m2V, m3V, m5V, xV, ve_tail _⟩, sa := saV, ga := gaV, gg := ggV, noN := nbV, iC := aiV, tC := t1V, kC := kCV, exC := eCV, tyC := tCV, hdC := hCV, te := exm_self eCV iCV tCV sCV,
      fn := ⟨_, _, _, _, _, _, _, _, _, _, _, _, _, _, l1V, c1V⟩ }
  have T : Txt ⟨C, CN, CV, K⟩ K mg gN gV :=
    { hK := rfl, B := ⟨PySem.W.mg_none_of X G b_len, PySem.W.mg_none_of X G b_range, PySem.W.mg_none_of X G b_max, PySem.W.mg_none_of X G b_min, PySem.W.mg_none_of X G b_isinstance, PySem.W.mg_none_of X G b_tuple, PySem.W.mg_none_of X G b_list, PySem.W.mg_none_of X G b_int, PySem.W.mg_none_of X G b_bool, PySem.W.mg_none_of X G b_abs, PySem.W.mg_none_of X G b_enumerate, PySem.W.mg_none_of X G b_sum⟩, CL := ⟨pgC, hdC, poC, saC⟩, naL := nL, naM := nM, TN := lowN, TV := lowV, c_MOST_LIVES := ⟨_, PySem.W.mg_of X G v_MOST_LIVES⟩ }
  have F0 := fun_mk (st := st_is_whole) l0 c0 k0
  have b0 := F0.binds (ps := ["thing"]) fun _ _ _ _ _ _ us hl => match us, hl with | [_], _ => rfl
  have F1 := fun_mk (st := st_is_life) l1 c1 k1
  have b1 := F1.binds (ps := ["thing"]) fun _ _ _ _ _ _ us hl => match us, hl with | [_], _ => rfl
  have F2 := fun_mk (st := st_m_uinit) l2 c2 k2
  have b2 := F2.binds (ps := ["self", "lives"]) fun _ _ _ _ _ _ us hl => match us, hl with | [_, _], _ => rfl
  have F3 := fun_mk (st := st_m_check_block) l3 c3 k3
  have b3 := F3.binds (ps := ["self", "name", "number"]) fun _ _ _ _ _ _ us hl => match us, hl with | [_, _, _], _ => rfl
  have F4 := fun_mk (st := st_ending) l4 c4 k4
  have b4 := F4.binds (ps := ["life"]) fun _ _ _ _ _ _ us hl => match us, hl with | [_], _ => rfl
  have F5 := fun_mk (st := st_first_meeting) l5 c5 k5
  have b5 := F5.binds (ps := ["lives", "b", "c"]) fun _ _ _ _ _ _ us hl => match us, hl with | [_, _, _], _ => rfl
  have F6 := fun_mk (st := st_m_meeting) l6 c6 k6
  have b6 := F6.binds (ps := ["self", "b", "c"]) fun _ _ _ _ _ _ us hl => match us, hl with | [_, _, _], _ => rfl
  have F7 := fun_mk (st := st_m_length_then) l7 c7 k7
  have b7 := F7.binds (ps := ["self", "b", "moment"]) fun _ _ _ _ _ _ us hl => match us, hl with | [_, _, _], _ => rfl
  have F8 := fun_mk (st := st_meeting_length) l8 c8 k8
  have b8 := F8.binds (ps := ["lives", "b", "c"]) fun _ _ _ _ _ _ us hl => match us, hl with | [_, _, _], _ => rfl
  have F9 := fun_mk (st := st_m_len_pair) l9 c9 k9
  have b9 := F9.binds (ps := ["self", "b", "c"]) fun _ _ _ _ _ _ us hl => match us, hl with | [_, _, _], _ => rfl
  have F10 := fun_mk (st := st_meeting_pairs) l10 c10 k10
  have b10 := F10.binds (ps := ["lives"]) fun _ _ _ _ _ _ us hl => match us, hl with | [_], _ => rfl
  have F11 := fun_mk (st := st_m_pairs) l11 c11 k11
  have b11 := F11.binds (ps := ["self"]) fun _ _ _ _ _ _ us hl => match us, hl with | [_], _ => rfl
  have F12 := fun_mk (st := st_lengths_then) l12 c12 k12
  have b12 := F12.binds (ps := ["lives", "moment"]) fun _ _ _ _ _ _ us hl => match us, hl with | [_, _], _ => rfl
  have F13 := fun_mk (st := st_m_heaviest) l13 c13 k13
  have b13 := F13.binds (ps := ["self"]) fun _ _ _ _ _ _ us hl => match us, hl with | [_], _ => rfl
  have F14 := fun_mk (st := st_wrong_start) l14 c14 k14
  have b14 := F14.binds (ps := ["blocks", "starts"]) fun _ _ _ _ _ _ us hl => match us, hl with | [_, _], _ => rfl
  have F15 := fun_mk (st := st_apart) l15 c15 k15
  have b15 := F15.binds (ps := ["start", "length", "other", "taken"]) fun _ _ _ _ _ _ us hl => match us, hl with | [_, _, _, _], _ => rfl
  have F16 := fun_mk (st := st_is_placing) l16 c16 k16
  have b16 := F16.binds (ps := ["blocks", "starts"]) fun _ _ _ _ _ _ us hl => match us, hl with | [_, _], _ => rfl
  have F17 := fun_mk (st := st_apart_pairs) l17 c17 k17
  have b17 := F17.binds (ps := ["blocks", "starts"]) fun _ _ _ _ _ _ us hl => match us, hl with | [_, _], _ => rfl
  have F18 := fun_mk (st := st_end_of) l18 c18 k18
  have b18 := F18.binds (ps := ["blocks", "starts"]) fun _ _ _ _ _ _ us hl => match us, hl with | [_, _], _ => rfl
  have F19 := fun_mk (st := st_u_law_draws) l19 c19 k19
  have b19 := F19.binds (ps := ["script"]) fun _ _ _ _ _ _ us hl => match us, hl with | [_], _ => rfl
  have F20 := fun_mk (st := st_u_law_pick) l20 c20 k20
  have b20 := F20.binds (ps := ["drawn", "at", "many"]) fun _ _ _ _ _ _ us hl => match us, hl with | [_, _, _], _ => rfl
  have F21 := fun_mk (st := st_u_law_far) l21 c21 k21
  have b21 := F21.binds (ps := ["drawn", "at"]) fun _ _ _ _ _ _ us hl => match us, hl with | [_, _], _ => rfl
  have F22 := fun_mk (st := st_u_law_lives) l22 c22 k22
  have b22 := F22.binds (ps := ["drawn", "many", "unit"]) fun _ _ _ _ _ _ us hl => match us, hl with | [_, _, _], _ => rfl
  have F23 := fun_mk (st := st_u_law_length) l23 c23 k23
  have b23 := F23.binds (ps := ["life", "moment"]) fun _ _ _ _ _ _ us hl => match us, hl with | [_, _], _ => rfl
  have F24 := fun_mk (st := st_u_law_meeting) l24 c24 k24
  have b24 := F24.binds (ps := ["lives", "b", "c"]) fun _ _ _ _ _ _ us hl => match us, hl with | [_, _, _], _ => rfl
  have F25 := fun_mk (st := st_u_law_apart) l25 c25 k25
  have b25 := F25.binds (ps := ["lives", "starts", "moment"]) fun _ _ _ _ _ _ us hl => match us, hl with | [_, _, _], _ => rfl
  have F26 := fun_mk (st := st_u_law_placed) l26 c26 k26
  have b26 := F26.binds (ps := ["lives", "starts"]) fun _ _ _ _ _ _ us hl => match us, hl with | [_, _], _ => rfl
  have F27 := fun_mk (st := st_u_law_heaviest) l27 c27 k27
  have b27 := F27.binds (ps := ["lives"]) fun _ _ _ _ _ _ us hl => match us, hl with | [_], _ => rfl
  have F28 := fun_mk (st := st_u_law_end) l28 c28 k28
  have b28 := F28.binds (ps := ["lives", "starts"]) fun _ _ _ _ _ _ us hl => match us, hl with | [_, _], _ => rfl
  have F29 := fun_mk (st := st_u_law_number) l29 c29 k29
  have b29 := F29.binds (ps := ["blocks", "asked", "b", "c"]) fun _ _ _ _ _ _ us hl => match us, hl with | [_, _, _, _], _ => rfl
  have F30 := fun_mk (st := st_u_law_value) l30 c30 k30
  have b30 := F30.binds (ps := ["lives"]) fun _ _ _ _ _ _ us hl => match us, hl with | [_], _ => rfl
  have F31 := fun_mk (st := st_u_law_no_pair) l31 c31 k31
  have b31 := F31.binds (ps := ["blocks", "b", "c"]) fun _ _ _ _ _ _ us hl => match us, hl with | [_, _, _], _ => rfl
  have F32 := fun_mk (st := st_u_law_looked) l32 c32 k32
  have b32 := F32.binds (ps := ["blocks", "lives"]) fun _ _ _ _ _ _ us hl => match us, hl with | [_, _], _ => rfl
  have F33 := fun_mk (st := st_u_law_started) l33 c33 k33
  have b33 := F33.binds (ps := ["blocks", "lives", "starts"]) fun _ _ _ _ _ _ us hl => match us, hl with | [_, _, _], _ => rfl
  have F34 := fun_mk (st := st_u_law_wrong_starts) l34 c34 k34
  have b34 := F34.binds (ps := ["blocks", "starts"]) fun _ _ _ _ _ _ us hl => match us, hl with | [_, _], _ => rfl
  have F35 := fun_mk (st := st_u_law_refusals) l35 c35 k35
  have b35 := F35.binds (ps := ["lives"]) fun _ _ _ _ _ _ us hl => match us, hl with | [_], _ => rfl
  have F36 := fun_mk (st := st_law) l36 c36 k36
  refine ⟨PySem.W.fnOf "law" "law" (defArgs st_law) (defBody st_law) (defScope st_law) .none kV36 dc36 pm36 an36 cd36 ct36, fun s v => .of_eq rfl, fun base _ _ => ?_⟩
  have D_is_whole : Fd ⟨C, CN, CV, K⟩ P w K mg base "is_whole" 2 p_is_whole := ⟨_, _, _, ok_is_whole (w := w) (base := base) T  F0, PySem.W.mg_of X G a0, k0, b0⟩
  have D_is_life : Fd ⟨C, CN, CV, K⟩ P w K mg base "is_life" 3 p_is_life := ⟨_, _, _, ok_is_life (w := w) (base := base) T D_is_whole F1, PySem.W.mg_of X G a1, k1, b1⟩
  have D_m_uinit : Mkd ⟨C, CN, CV, K⟩ P w K mg base "Blocks" 4 p_m_uinit := ⟨_, _, _, ok_m_uinit (w := w) (base := base) T D_is_life F2 init_ind, ⟨mkC, a2, i2, kcC⟩, PySem.W.mg_of X G aC, b2⟩
  have D_m_check_block : Md ⟨C, CN, CV, K⟩ P w K mg base "check_block" 3 p_m_check_block := ⟨_, _, _, ok_m_check_block (w := w) (base := base) T D_is_whole F3, ⟨a3, i3, k3⟩, b3⟩
  have D_ending : Fd ⟨C, CN, CV, K⟩ P w K mg base "ending" 2 p_ending := ⟨_, _, _, ok_ending (w := w) (base := base) T  F4, PySem.W.mg_of X G a4, k4, b4⟩
  have D_first_meeting : Fd ⟨C, CN, CV, K⟩ P w K mg base "first_meeting" 3 p_first_meeting := ⟨_, _, _, ok_first_meeting (w := w) (base := base) T D_ending F5, PySem.W.mg_of X G a5, k5, b5⟩
  have D_m_meeting : Md ⟨C, CN, CV, K⟩ P w K mg base "meeting" 4 p_m_meeting := ⟨_, _, _, ok_m_meeting (w := w) (base := base) T D_m_check_block D_first_meeting F6, ⟨a6, i6, k6⟩, b6⟩
  have D_m_length_then : Md ⟨C, CN, CV, K⟩ P w K mg base "length_then" 4 p_m_length_then := ⟨_, _, _, ok_m_length_then (w := w) (base := base) T D_m_check_block D_is_whole F7, ⟨a7, i7, k7⟩, b7⟩
  have D_meeting_length : Fd ⟨C, CN, CV, K⟩ P w K mg base "meeting_length" 4 p_meeting_length := ⟨_, _, _, ok_meeting_length (w := w) (base := base) T D_first_meeting F8, PySem.W.mg_of X G a8, k8, b8⟩
  have D_m_len_pair : Md ⟨C, CN, CV, K⟩ P w K mg base "len_pair" 5 p_m_len_pair := ⟨_, _, _, ok_m_len_pair (w := w) (base := base) T D_m_meeting D_meeting_length F9, ⟨a9, i9, k9⟩, b9⟩
  have D_meeting_pairs : Fd ⟨C, CN, CV, K⟩ P w K mg base "meeting_pairs" 4 p_meeting_pairs := ⟨_, _, _, ok_meeting_pairs (w := w) (base := base) T D_first_meeting F10, PySem.W.mg_of X G a10, k10, b10⟩
  have D_m_pairs : Md ⟨C, CN, CV, K⟩ P w K mg base "pairs" 5 p_m_pairs := ⟨_, _, _, ok_m_pairs (w := w) (base := base) T D_meeting_pairs F11, ⟨a11, i11, k11⟩, b11⟩
  have D_lengths_then : Fd ⟨C, CN, CV, K⟩ P w K mg base "lengths_then" 2 p_lengths_then := ⟨_, _, _, ok_lengths_then (w := w) (base := base) T  F12, PySem.W.mg_of X G a12, k12, b12⟩
  have D_m_heaviest : Md ⟨C, CN, CV, K⟩ P w K mg base "heaviest" 3 p_m_heaviest := ⟨_, _, _, ok_m_heaviest (w := w) (base := base) T D_lengths_then F13, ⟨a13, i13, k13⟩, b13⟩
  have D_wrong_start : Fd ⟨C, CN, CV, K⟩ P w K mg base "wrong_start" 3 p_wrong_start := ⟨_, _, _, ok_wrong_start (w := w) (base := base) T D_is_whole F14, PySem.W.mg_of X G a14, k14, b14⟩
  have D_apart : Fd ⟨C, CN, CV, K⟩ P w K mg base "apart" 2 p_apart := ⟨_, _, _, ok_apart (w := w) (base := base) T  F15, PySem.W.mg_of X G a15, k15, b15⟩
  have D_is_placing : Fd ⟨C, CN, CV, K⟩ P w K mg base "is_placing" 6 p_is_placing := ⟨_, _, _, ok_is_placing (w := w) (base := base) T D_apart D_ending D_m_length_then D_m_meeting D_m_pairs D_wrong_start F16, PySem.W.mg_of X G a16, k16, b16⟩
  have D_apart_pairs : Fd ⟨C, CN, CV, K⟩ P w K mg base "apart_pairs" 6 p_apart_pairs := ⟨_, _, _, ok_apart_pairs (w := w) (base := base) T D_apart D_m_len_pair D_m_pairs D_wrong_start F17, PySem.W.mg_of X G a17, k17, b17⟩
  have D_end_of : Fd ⟨C, CN, CV, K⟩ P w K mg base "end_of" 4 p_end_of := ⟨_, _, _, ok_end_of (w := w) (base := base) T D_wrong_start F18, PySem.W.mg_of X G a18, k18, b18⟩
  have D_u_law_draws : Fd ⟨C, CN, CV, K⟩ P w K mg base "_law_draws" 2 p_u_law_draws := ⟨_, _, _, ok_u_law_draws (w := w) (base := base) T  F19, PySem.W.mg_of X G a19, k19, b19⟩
  have D_u_law_pick : Fd ⟨C, CN, CV, K⟩ P w K mg base "_law_pick" 2 p_u_law_pick := ⟨_, _, _, ok_u_law_pick (w := w) (base := base) T  F20, PySem.W.mg_of X G a20, k20, b20⟩
  have D_u_law_far : Fd ⟨C, CN, CV, K⟩ P w K mg base "_law_far" 3 p_u_law_far := ⟨_, _, _, ok_u_law_far (w := w) (base := base) T D_u_law_pick F21, PySem.W.mg_of X G a21, k21, b21⟩
  have D_u_law_lives : Fd ⟨C, CN, CV, K⟩ P w K mg base "_law_lives" 3 p_u_law_lives := ⟨_, _, _, ok_u_law_lives (w := w) (base := base) T D_u_law_pick F22, PySem.W.mg_of X G a22, k22, b22⟩
  have D_u_law_length : Fd ⟨C, CN, CV, K⟩ P w K mg base "_law_length" 2 p_u_law_length := ⟨_, _, _, ok_u_law_length (w := w) (base := base) T  F23, PySem.W.mg_of X G a23, k23, b23⟩
  have D_u_law_meeting : Fd ⟨C, CN, CV, K⟩ P w K mg base "_law_meeting" 3 p_u_law_meeting := ⟨_, _, _, ok_u_law_meeting (w := w) (base := base) T D_u_law_length F24, PySem.W.mg_of X G a24, k24, b24⟩
  have D_u_law_apart : Fd ⟨C, CN, CV, K⟩ P w K mg base "_law_apart" 3 p_u_law_apart := ⟨_, _, _, ok_u_law_apart (w := w) (base := base) T D_u_law_length F25, PySem.W.mg_of X G a25, k25, b25⟩
  have D_u_law_placed : Fd ⟨C, CN, CV, K⟩ P w K mg base "_law_placed" 4 p_u_law_placed := ⟨_, _, _, ok_u_law_placed (w := w) (base := base) T D_u_law_apart F26, PySem.W.mg_of X G a26, k26, b26⟩
  have D_u_law_heaviest : Fd ⟨C, CN, CV, K⟩ P w K mg base "_law_heaviest" 3 p_u_law_heaviest := ⟨_, _, _, ok_u_law_heaviest (w := w) (base := base) T D_u_law_length F27, PySem.W.mg_of X G a27, k27, b27⟩
  have D_u_law_end : Fd ⟨C, CN, CV, K⟩ P w K mg base "_law_end" 2 p_u_law_end := ⟨_, _, _, ok_u_law_end (w := w) (base := base) T  F28, PySem.W.mg_of X G a28, k28, b28⟩
  have D_u_law_number : Fd ⟨C, CN, CV, K⟩ P w K mg base "_law_number" 6 p_u_law_number := ⟨_, _, _, ok_u_law_number (w := w) (base := base) T D_m_len_pair D_m_length_then D_m_meeting F29, PySem.W.mg_of X G a29, k29, b29⟩
  have D_u_law_value : Fd ⟨C, CN, CV, K⟩ P w K mg base "_law_value" 6 p_u_law_value := ⟨_, _, _, ok_u_law_value (w := w) (base := base) T D_m_uinit F30, PySem.W.mg_of X G a30, k30, b30⟩
  have D_u_law_no_pair : Fd ⟨C, CN, CV, K⟩ P w K mg base "_law_no_pair" 6 p_u_law_no_pair := ⟨_, _, _, ok_u_law_no_pair (w := w) (base := base) T D_m_len_pair F31, PySem.W.mg_of X G a31, k31, b31⟩
  have D_u_law_looked : Fd ⟨C, CN, CV, K⟩ P w K mg base "_law_looked" 7 p_u_law_looked := ⟨_, _, _, ok_u_law_looked (w := w) (base := base) T D_u_law_heaviest D_u_law_length D_u_law_meeting D_u_law_no_pair D_u_law_number D_m_heaviest D_m_len_pair D_m_length_then D_m_meeting D_m_pairs F32, PySem.W.mg_of X G a32, k32, b32⟩
  have D_u_law_started : Fd ⟨C, CN, CV, K⟩ P w K mg base "_law_started" 7 p_u_law_started := ⟨_, _, _, ok_u_law_started (w := w) (base := base) T D_u_law_end D_u_law_placed D_apart_pairs D_end_of D_is_placing F33, PySem.W.mg_of X G a33, k33, b33⟩
  have D_u_law_wrong_starts : Fd ⟨C, CN, CV, K⟩ P w K mg base "_law_wrong_starts" 7 p_u_law_wrong_starts := ⟨_, _, _, ok_u_law_wrong_starts (w := w) (base := base) T D_apart_pairs D_end_of D_is_placing F34, PySem.W.mg_of X G a34, k34, b34⟩
  have D_u_law_refusals : Fd ⟨C, CN, CV, K⟩ P w K mg base "_law_refusals" 7 p_u_law_refusals := ⟨_, _, _, ok_u_law_refusals (w := w) (base := base) T D_m_uinit D_u_law_value F35, PySem.W.mg_of X G a35, k35, b35⟩
  exact (ok_law (w := w) (base := base) T D_m_uinit D_u_law_draws D_u_law_far D_u_law_lives D_u_law_looked D_u_law_number D_u_law_pick D_u_law_refusals D_u_law_started D_u_law_wrong_starts D_is_placing F36).imp (law_sp rfl)
theorem walk {l : PySem.W.OpenLaw} {q : Program} {loose : List Str} {XP : (Str → Option Value) → Heap → Prop} {YP : World → Heap → Prop} {d : DefRec} {K : Params → PySem.W.Frag} (hn : l.most = some 63) (hdf : d.params.defaults = [])
    (hY : ∀ (w : World) (h : Heap), YP w h → (K w.params).In h)
    (F : ∀ (w : World) (mg : Str → Option Value) (fa : Addr) (h : Heap), (K w.params).In h → h.Ns mainGlobals mg → mg d.name = some (.ref fa) →
      ∃ fd : FuncData, (∀ (s : Shared) (u : Value), BindsTo s fd ⟨[u], []⟩ [("script", u)]) ∧ ∀ base : Heap, (K w.params).In base → base.Ns mainGlobals mg → FnOk l.prog w (K w.params) mg base (L2.CX l.prog w) 8 fa fd ["script"] (spLaw (K w.params))) :
    PySem.W.WalkO q loose XP YP l.row.toRowW d [] (fun f vs => PySem.call f vs) :=
  L2.walk_of (n := 63) (k := 8) (x := "script") (CX := fun w => L2.CX l.prog w) (sp := fun w => spLaw (K w.params)) hn (by decide) hdf ⟨rfl, by decide, by decide⟩ hY F (fun _ _ a ns hl _ hS => ⟨a, ns, rfl, hS, hl, fun _ => rfl⟩) fun _ _ _ _ _ z => by
    obtain ⟨_, _, _, _, _, _, _, _, _, _, _, _, z⟩ := z
    exact z
end K70

set_option Elab.async false
set_option linter.all false
open PySem PySem.W PyProof.Rows
set_option maxRecDepth 100000 in
set_option maxHeartbeats 0 in
theorem PySem.Challenge.cw_shapestold_k70_first_meetings_are_enough_holds : PySem.Challenge.rw_shapestold_k70_first_meetings_are_enough.Holds := by
  w_on; o_law; k_head; (case hw => w_witness2)
  k_fill
  refine K70.walk (l := PySem.Challenge.rw_shapestold_k70_first_meetings_are_enough) rfl rfl (fun w h Y => PySem.W.kIn_of Y) ?F
  case F =>
    intro w mg fa h KX G hmg
    refine' K70.all_mk KX G hmg ?aC ?aCN ?aCV ?a0 ?l0 ?c0 ?k0 ?a1 ?l1 ?c1 ?k1 ?a2 ?i2 ?l2 ?c2 ?k2 ?a3 ?i3 ?l3 ?c3 ?k3 ?a4 ?l4 ?c4 ?k4 ?a5 ?l5 ?c5 ?k5 ?a6 ?i6 ?l6 ?c6 ?k6 ?a7 ?i7 ?l7 ?c7 ?k7 ?a8 ?l8 ?c8 ?k8 ?a9 ?i9 ?l9 ?c9 ?k9 ?a10 ?l10 ?c10 ?k10 ?a11 ?i11 ?l11 ?c11 ?k11 ?a12 ?l12 ?c12 ?k12 ?a13 ?i13 ?l13 ?c13 ?k13 ?a14 ?l14 ?c14 ?k14 ?a15 ?l15 ?c15 ?k15 ?a16 ?l16 ?c16 ?k16 ?a17 ?l17 ?c17 ?k17 ?a18 ?l18 ?c18 ?k18 ?a19 ?l19 ?c19 ?k19 ?a20 ?l20 ?c20 ?k20 ?a21 ?l21 ?c21 ?k21 ?a22 ?l22 ?c22 ?k22 ?a23 ?l23 ?c23 ?k23 ?a24 ?l24 ?c24 ?k24 ?a25 ?l25 ?c25 ?k25 ?a26 ?l26 ?c26 ?k26 ?a27 ?l27 ?c27 ?k27 ?a28 ?l28 ?c28 ?k28 ?a29 ?l29 ?c29 ?k29 ?a30 ?l30 ?c30 ?k30 ?a31 ?l31 ?c31 ?k31 ?a32 ?l32 ?c32 ?k32 ?a33 ?l33 ?c33 ?k33 ?a34 ?l34 ?c34 ?k34 ?a35 ?l35 ?c35 ?k35 ?a36 ?l36 ?c36 ?k36 ?pgC ?hdC ?poC ?saC ?mkC ?kcC ?nL ?nM ?xN ?saN ?gaN ?ggN ?nbN ?aiN ?t1N ?l1N ?c1N ?kCN ?eCN ?tCN ?hCN ?iCN ?sCN ?xV ?saV ?gaV ?ggV ?nbV ?aiV ?t1V ?l1V ?c1V ?kCV ?eCV ?tCV ?hCV ?iCV ?sCV ?v_MOST_LIVES ?b_len ?b_range ?b_max ?b_min ?b_isinstance ?b_tuple ?b_list ?b_int ?b_bool ?b_abs ?b_enumerate ?b_sum
    (case aC => k_is)
    (case aCN => k_is)
    (case aCV => k_is)
    (case a0 => k_is)
    (case l0 => k_is)
    (case c0 => k_is)
    (case k0 => k_is)
    (case a1 => k_is)
    (case l1 => k_is)
    (case c1 => k_is)
    (case k1 => k_is)
    (case a2 => k_is)
    (case i2 => k_is)
    (case l2 => k_is)
    (case c2 => k_is)
    (case k2 => k_is)
    (case a3 => k_is)
    (case i3 => k_is)
    (case l3 => k_is)
    (case c3 => k_is)
    (case k3 => k_is)
    (case a4 => k_is)
    (case l4 => k_is)
    (case c4 => k_is)
    (case k4 => k_is)
    (case a5 => k_is)
    (case l5 => k_is)
    (case c5 => k_is)
    (case k5 => k_is)
    (case a6 => k_is)
    (case i6 => k_is)
    (case l6 => k_is)
    (case c6 => k_is)
    (case k6 => k_is)
    (case a7 => k_is)
    (case i7 => k_is)
    (case l7 => k_is)
    (case c7 => k_is)
    (case k7 => k_is)
    (case a8 => k_is)
    (case l8 => k_is)
    (case c8 => k_is)
    (case k8 => k_is)
    (case a9 => k_is)
    (case i9 => k_is)
    (case l9 => k_is)
    (case c9 => k_is)
    (case k9 => k_is)
    (case a10 => k_is)
    (case l10 => k_is)
    (case c10 => k_is)
    (case k10 => k_is)
    (case a11 => k_is)
    (case i11 => k_is)
    (case l11 => k_is)
    (case c11 => k_is)
    (case k11 => k_is)
    (case a12 => k_is)
    (case l12 => k_is)
    (case c12 => k_is)
    (case k12 => k_is)
    (case a13 => k_is)
    (case i13 => k_is)
    (case l13 => k_is)
    (case c13 => k_is)
    (case k13 => k_is)
    (case a14 => k_is)
    (case l14 => k_is)
    (case c14 => k_is)
    (case k14 => k_is)
    (case a15 => k_is)
    (case l15 => k_is)
    (case c15 => k_is)
    (case k15 => k_is)
    (case a16 => k_is)
    (case l16 => k_is)
    (case c16 => k_is)
    (case k16 => k_is)
    (case a17 => k_is)
    (case l17 => k_is)
    (case c17 => k_is)
    (case k17 => k_is)
    (case a18 => k_is)
    (case l18 => k_is)
    (case c18 => k_is)
    (case k18 => k_is)
    (case a19 => k_is)
    (case l19 => k_is)
    (case c19 => k_is)
    (case k19 => k_is)
    (case a20 => k_is)
    (case l20 => k_is)
    (case c20 => k_is)
    (case k20 => k_is)
    (case a21 => k_is)
    (case l21 => k_is)
    (case c21 => k_is)
    (case k21 => k_is)
    (case a22 => k_is)
    (case l22 => k_is)
    (case c22 => k_is)
    (case k22 => k_is)
    (case a23 => k_is)
    (case l23 => k_is)
    (case c23 => k_is)
    (case k23 => k_is)
    (case a24 => k_is)
    (case l24 => k_is)
    (case c24 => k_is)
    (case k24 => k_is)
    (case a25 => k_is)
    (case l25 => k_is)
    (case c25 => k_is)
    (case k25 => k_is)
    (case a26 => k_is)
    (case l26 => k_is)
    (case c26 => k_is)
    (case k26 => k_is)
    (case a27 => k_is)
    (case l27 => k_is)
    (case c27 => k_is)
    (case k27 => k_is)
    (case a28 => k_is)
    (case l28 => k_is)
    (case c28 => k_is)
    (case k28 => k_is)
    (case a29 => k_is)
    (case l29 => k_is)
    (case c29 => k_is)
    (case k29 => k_is)
    (case a30 => k_is)
    (case l30 => k_is)
    (case c30 => k_is)
    (case k30 => k_is)
    (case a31 => k_is)
    (case l31 => k_is)
    (case c31 => k_is)
    (case k31 => k_is)
    (case a32 => k_is)
    (case l32 => k_is)
    (case c32 => k_is)
    (case k32 => k_is)
    (case a33 => k_is)
    (case l33 => k_is)
    (case c33 => k_is)
    (case k33 => k_is)
    (case a34 => k_is)
    (case l34 => k_is)
    (case c34 => k_is)
    (case k34 => k_is)
    (case a35 => k_is)
    (case l35 => k_is)
    (case c35 => k_is)
    (case k35 => k_is)
    (case a36 => k_is)
    (case l36 => k_is)
    (case c36 => k_is)
    (case k36 => k_is)
    (case pgC => k_is)
    (case hdC => k_is)
    (case poC => k_is)
    (case saC => k_is)
    (case mkC => k_is)
    (case kcC => k_is)
    (case nL => k_is)
    (case nM => k_is)
    (case xN => k_is)
    (case saN => k_is)
    (case gaN => k_is)
    (case ggN => k_is)
    (case nbN => k_is)
    (case aiN => k_is)
    (case t1N => k_is)
    (case l1N => k_is)
    (case c1N => k_is)
    (case kCN => k_is)
    (case eCN => k_is)
    (case tCN => k_is)
    (case hCN => k_is)
    (case iCN => k_is)
    (case sCN => first | rfl | k_is)
    (case xV => k_is)
    (case saV => k_is)
    (case gaV => k_is)
    (case ggV => k_is)
    (case nbV => k_is)
    (case aiV => k_is)
    (case t1V => k_is)
    (case l1V => k_is)
    (case c1V => k_is)
    (case kCV => k_is)
    (case eCV => k_is)
    (case tCV => k_is)
    (case hCV => k_is)
    (case iCV => k_is)
    (case sCV => first | rfl | k_is)
    (case v_MOST_LIVES => k_is)
    (case b_len => k_is)
    (case b_range => k_is)
    (case b_max => k_is)
    (case b_min => k_is)
    (case b_isinstance => k_is)
    (case b_tuple => k_is)
    (case b_list => k_is)
    (case b_int => k_is)
    (case b_bool => k_is)
    (case b_abs => k_is)
    (case b_enumerate => k_is)
    (case b_sum => k_is)

