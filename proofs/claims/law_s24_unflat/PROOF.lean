import PyProof.Rows.All
import Wide.All
import OpenK.AllK
import Wide.FinOn
import PyProof.EqAt
import PyProof.EqKinds
import PyProof.TupleCall
import Open.SpecLaws
import KE.OsGo
import PySem.Challenge.RW_nestarray_s24_unflat
import HandS.ForSpec
import HandS.ExcSuper
import HandS.Iter
import HandS.IsInst
import HandS.Comp
import HandS.Flow
import HandS.Zip
import HandS.Rev
import HandS.Walk
import HandS.More
set_option Elab.async false
set_option linter.all false
set_option autoImplicit false
set_option maxRecDepth 100000
set_option maxHeartbeats 4000000
/-! ### The program's own error, Refusal(Exception) with one field: skel/42_own_error_by_import turned to it (the store by ESX.osa_new) -/
namespace PySem
namespace RefX
open PySem.W PySem.Calls PyProof.Rows PySem.HandSPX
/-! ### the text of __init__ -/
def iA (p1 p2 : Pos) : Arguments := { posonlyargs := [], args := [{ arg := "self", annotation := none, pos := p1 }, { arg := "number", annotation := none, pos := p2 }], vararg := none, kwonlyargs := [], kw_defaults := [], kwarg := none, defaults := [] }
def iB (q1 q2 q3 q4 : Pos) : List Stmt := [.Assign [.Attribute (.Name "self" q1) "number" q2] (.Name "number" q3) q4]
def iS : Scope := { kind := .function, names := [(PySem.Str.ofString "self", .local), (PySem.Str.ofString "number", .local)], isGenerator := false, isCoroutine := false, more := [] }
/-- what the written part says of Refusal, at C, and of its own __init__, at fI -/
structure RefTxt (K : Frag) (mg : Str → Option Value) (C fI : Addr) : Prop where
  gC : mg "Refusal" = some (.ref C)
  cls : ∃ nm q N bs sn sub ab col dd k0 k1 k2 k3 k5, K.lookup C = some (excClassObj nm q C N bs PySem.ESX.exTail true sn sub ab col dd k0 k1 k2 k3 k5 "Exception.__new__")
  sa : findIn K (.ref C) "__setattr__" = some (some (.builtin "object.__setattr__"))
  ga : findIn K (.ref C) "__getattribute__" = some (some (.builtin "BaseException.__getattribute__"))
  gg : findIn K (.ref C) "__getattr__" = some none
  noN : findIn K (.ref C) "number" = some none
  iC : findIn K (.ref C) "__init__" = some (some (.ref fI))
  tC : typeIn K (.ref fI) = some (.type "function")
  kC : keepIn K (.ref C) = true
  exC : subIn K (.ref C) (.type "BaseException") = some true
  tyC : typeIn K (.ref C) = some (.type "type")
  hdC : hasDictIn K C = true
  te : exmOne K (.ref C) (.ref C) = some true
  fn : ∃ (oc : Value) (od : Option Addr) (doc pm : Value) (an : Option Addr) (cdv ct : Value) (osl : Array (Option Value)) (p1 p2 q1 q2 q3 q4 : Pos),
    K.lookup fI = some ⟨oc, od, .func (fnOf "__init__" "Refusal.__init__" (iA p1 p2) (iB q1 q2 q3 q4) iS .none .none doc pm an cdv ct), osl⟩ ∧ codeIn K cdv "Refusal.__init__" = true
theorem one_size (v : Value) : [v].length ≤ sizeLine := by
  rw [sizeLine_eq]
  exact (by decide : 1 ≤ 16777216)
theorem kept_but {K : Frag} {h h' : Heap} {x : Addr} (X : K.In h) (hx : K.lookup x = none) (k : ∀ b o, b ≠ x → h.get? b = some o → h'.get? b = some o) : K.In h' := fun a o e =>
  k a o (fun z => by rw [z, hx] at e; cases e) (X a o e)
theorem ldC {M : Model} {s : Shared} {name : Str} {scope : Scope} {L a : Addr} {cd : Value} {m : Str → Option Value} {x : Str} {pos : Pos} {v : Value} {Q : Value → Shared → Prop} {A : Around} {E : Value → Shared → Prop} (hn : s.heap.Ns L m) (hv : m x = some v) (h : Q v s)
    (hk : scope.kind = .function := by rfl) (hl : (envOfC name scope L a cd).kindOf x = some .local := by rfl) (hd : (x == ("__debug__" : Str)) = false := by decide) :
    wpAny M A (eval (.Name x pos) (envOfC name scope L a cd)) Q E s := wpAny_Name (wpAny_loadName_local hk hl hn hv h) hd
/-- what __init__ leaves of a fresh exception at x -/
structure InitEnd (h h' : Heap) (x C dx t1 : Addr) (v : Value) : Prop where
  keep : ∀ b o, b ≠ x → h.get? b = some o → h'.get? b = some o
  obj : h'.get? x = some { cls := .ref C, dict := some dx, data := .fields #[.ref t1, .none, .none, .none, .bool false, .none] }
  dbig : h.objs.size ≤ dx
  dne : dx ≠ x
  ns : h'.Ns1 dx (fun y => if y = "number" then some v else none)
/-- a made Refusal -/
structure OwnMade (h h' : Heap) (e C d : Addr) (v : Value) : Prop where
  keep : ∀ b o, h.get? b = some o → h'.get? b = some o
  new : h.objs.size ≤ e
  obj : ∃ oe vs, h'.get? e = some oe ∧ oe.cls = .ref C ∧ oe.dict = some d ∧ oe.data = .fields vs ∧ vs[1]? = some .none
  dbig : h.objs.size ≤ d
  dne : d ≠ e
  ns : h'.Ns1 d (fun y => if y = "number" then some v else none)
section
variable {prog : Program} {w : World} {A : Around} {E : Value → Shared → Prop} {R : Result → Shared → Prop} {s : Shared} {K : Frag} {mg : Str → Option Value} {C fI : Addr}
theorem ref_init (T : RefTxt K mg C fI) {x t0 : Addr} {v : Value} (X : K.In s.heap) (hlim : s.heap.NoLimit) (hx : s.heap.get? x = some (excO C t0)) (hnx : K.lookup x = none) (hroom : A.depth < recursionLimit)
    (hq : ∀ h' tk dx, InitEnd s.heap h' x C dx t0 v → R (.ok (.ret .none)) { s with heap := h', toks := tk }) :
    codeAny (model prog w) A (.call (.ref fI) ⟨[.ref x, v], []⟩) R s := by
  obtain ⟨oc, od, doc, pm, an, cdv, ct, osl, p1, p2, q1, q2, q3, q4, ho, hcd⟩ := T.fn
  obtain ⟨nm, q, N, bs, sn, sub, ab, col, dd, k0, k1, k2, k3, k5, hC⟩ := T.cls
  have hcl : clsIn K C = some { name := nm, bases := bs, mro := .ref C :: PySem.ESX.exTail, ns := N, qualname := q, hasDict := true, slotNames := sn, subclasses := sub, abstract := ab, collection := col, hasDel := false } := by unfold clsIn; rw [hC] <;> rfl
  refine Att.call_fn (binds := [("self", .ref x), ("number", v)]) X hlim ho hcd hroom (BindsTo.of_eq (by first | rfl | with_unfolding_all rfl)) (by first | rfl | decide | with_unfolding_all rfl) (fun s₁ IC => ?_) rfl rfl rfl
  obtain ⟨h₁, tk₁, rfl⟩ := IC.toInCall.same
  have k : ∀ b o, s.heap.get? b = some o → h₁.get? b = some o := IC.toInCall.keep
  have hn := IC.toInCall.ns
  have hxL : s.heap.objs.size ≠ x := Nat.ne_of_gt (Heap.lt_size hx)
  have X₁ : K.In h₁ := X.keeps k
  have hx₁ := k _ _ hx
  -- self.number = number
  show wpAny _ _ (execs _ _) _ _ _
  refine wpAny_execs_cons (plainObj_wpAny_Assign_Attribute ?_)
  refine ldC (v := v) hn (by first | rfl | with_unfolding_all rfl | kernel_rfl) (ldC (v := .ref x) hn (by first | rfl | with_unfolding_all rfl | kernel_rfl) ?_)
  refine set_plain X₁ (ox := excO C t0) (od := none) ⟨hx₁, rfl, rfl, trivial⟩ T.sa ?_
  refine PySem.ESX.osa_new X₁ hx₁ hcl rfl rfl T.noN (fun h₃ tk₃ dx k₃ dn dne hx₃ hn₃ => ?_)
  show wpAny _ _ (execs _ _) _ _ _
  have z : s.heap.objs.size < h₁.objs.size := hn.lt
  exact wpAny_execs_nil (hq h₃ tk₃ dx ⟨fun b o hb e => k₃ b o hb (k b o e), hx₃, Nat.le_of_lt (Nat.lt_of_lt_of_le z dn), dne, hn₃⟩)
theorem ref_made (T : RefTxt K mg C fI) {v : Value} (X : K.In s.heap) (hlim : s.heap.NoLimit) (hroom : A.depth + 1 < recursionLimit)
    (hq : ∀ h' tk e d, OwnMade s.heap h' e C d v → R (.ok (.ret (.ref e))) { s with heap := h', toks := tk }) :
    codeAny (model prog w) A (.call (.ref C) ⟨[v], []⟩) R s := by
  obtain ⟨nm, q, N, bs, sn, sub, ab, col, dd, k0, k1, k2, k3, k5, hC⟩ := T.cls
  obtain ⟨hp, g, dr, tk, os⟩ := s
  have k : ∀ b o, hp.get? b = some o → ((hp.push (kdv_tup [v])).push (excO C hp.objs.size)).get? b = some o := fun b o e => Heap.get?_push_of_some _ (Heap.get?_push_of_some _ e)
  have hget : ((hp.push (kdv_tup [v])).push (excO C hp.objs.size)).get? (hp.objs.size + 1) = some (excO C hp.objs.size) := by heap_get
  have hnx : K.lookup (hp.objs.size + 1) = none := by
    cases e : K.lookup (hp.objs.size + 1) with
    | none => rfl
    | some o =>
      have z : hp.get? (hp.objs.size + 1) = some o := X _ _ e
      exact absurd (Nat.lt_of_succ_lt (Heap.lt_size z)) (Nat.lt_irrefl _)
  refine call_own F.excBase_Exception (fun _ => rfl) (X _ _ hC) (looks_findIn X T.iC) (fun self => bind_fn X self T.tC) (one_size v) ?_
  refine ref_init (s := ⟨(hp.push (kdv_tup [v])).push (excO C hp.objs.size), g, dr, tk, os⟩) T (X.keeps k) (hlim.keeps k) hget hnx ?_ fun h' tk' dx ⟨k', hx, dn, dne, hns⟩ => ?_
  · show A.depth + 1 < recursionLimit
    exact hroom
  · have old : ∀ b o, hp.get? b = some o → h'.get? b = some o := fun b o e => k' b o (Nat.ne_of_lt (Nat.lt_succ_of_lt (Heap.lt_size e))) (k b o e)
    have z : hp.objs.size + 1 + 1 ≤ dx := by
      first
        | (simpa only [Heap.size_push] using dn)
        | exact dn
        | (have q := dn; rw [Heap.size_push, Heap.size_push] at q; exact q)
    exact ⟨rfl, hq h' tk' (hp.objs.size + 1) dx ⟨old, Nat.le_succ _, ⟨_, _, hx, rfl, rfl, rfl, rfl⟩, Nat.le_trans (Nat.le_trans (Nat.le_succ _) (Nat.le_succ _)) z, dne, hns⟩⟩
end
end RefX
end PySem
namespace L2
open PySem PySem.Spec PyProof.Rows
theorem relO_ref {v : V} {v' : Value} (r : RelV v v') (f : Str) : RelO (List.lookup f [(("number" : Str), v)]) (if f = "number" then some v' else none) := by
  by_cases hw : f = "number"
  · subst hw
    rw [if_pos rfl]
    have q : List.lookup ("number" : Str) [(("number" : Str), v)] = some v := by simp [List.lookup]
    rw [q]
    exact r
  · rw [if_neg hw]
    have qw : (f == ("number" : Str)) = false := by simpa using hw
    have q2 : List.lookup f [(("number" : Str), v)] = none := by simp [List.lookup, qw]
    rw [q2]
    trivial
section
variable {X : Cx} {C fI : Addr}
/-- Refusal(e) -/
def tMkRef (C : Addr) (ta : TA) : St → Hp → XK → Prop := fun σ H Q => ta σ H fun vs H1 => ∃ v, vs = [v] ∧ ∀ d, H1 d = none → Q (.ref C) (some d) (upd H1 d (.xd [(("number" : Str), v)]))
theorem pmk_ref {a : Expr} {ta : TA} {p pos : Pos} {k : Nat} (T : PySem.RefX.RefTxt X.K X.mg C fI) (hr : Room k X.A) (ha : PA X [a] ta) (hg : Gl X "Refusal" := by rfl)
    (he : starEach (a :: []) X.env = (false, eval a X.env) :: starEach [] X.env := by rfl) (hpl : (backTo pos (starEach [] X.env)).any (·.1) = false := by rfl) :
    PMk X (.Call (.Name "Refusal" p) [a] [] pos) (tMkRef C ta) := by
  intro pins s σ H Q I h
  refine wpAny_Call_Name_kw (ld_glob I hg T.gC ?_)
  refine PySem.W.callWith_K (h₀ := X.base) I.ok.mod.kin T.kC (thn (ha.run pos pins s σ H _ I h) fun us s1 hh => ?_) he hpl
  obtain ⟨vs, H1, I1, r1, v, ev, q1⟩ := hh
  subst ev
  refine ⟨I1.kIn, ?_⟩
  cases r1 with
  | cons rv rn =>
    rename_i v' us'
    cases rn
    show wpAny _ _ (call (.ref C) [v']) _ _ _
    have hlim := I1.nolimit
    obtain ⟨hp, g, dr, tk, os⟩ := s1
    refine wpAny_call (PySem.RefX.ref_made T I1.kIn hlim (by have := hr.dp; omega) fun h' tk' e d M => ?_)
    show MkP X pins σ Q (.ref e) ⟨h', g, dr, tk', os⟩
    obtain ⟨oe, fv, hoe, hc, hd, hdat, h1⟩ := M.obj
    have hns := M.ns
    obtain ⟨G', g1, g2⟩ := restrict h' fun b => decide (b ≠ e)
    have gk : ∀ b, b ≠ e → G'.get? b = h'.get? b := fun b hb => g1 b (decide_eq_true hb)
    have ge : G'.get? e = none := g2 e (by simp)
    have old : ∀ b o, hp.get? b = some o → G'.get? b = some o := fun b o q => (gk b (Nat.ne_of_lt (Nat.lt_of_lt_of_le (Heap.lt_size q) M.new))).trans (M.keep b o q)
    have ob : ObjOk X.prog X.w (upd H1 d (.xd [(("number" : Str), v)])) G' d (.xd [(("number" : Str), v)]) :=
      ⟨_, hns.at (fun o q => (gk d M.dne).trans q), fun f => relO_ref rv f⟩
    have J : Inv X pins σ (upd H1 d (.xd [(("number" : Str), v)])) ⟨G', g, dr, tk', os⟩ := I1.laid (t' := tk') old M.dbig ob
    refine ⟨e, oe, fv, ⟨G', g, dr, tk', os⟩, _, .ref C, some d, rfl, J, fun b o q => ?_, ge, hoe, ⟨hc, hd⟩, hdat, h1, ?_, rfl, I1.bare, raises_own T.exC T.tyC, q1 d (I1.hok.fresh M.dbig)⟩
    · by_cases hb : b = e
      · have q' : G'.get? b = some o := q
        rw [hb, ge] at q'; cases q'
      · exact (gk b hb).symm.trans q
    · rw [upd_ne (Ne.symm M.dne)]
      exact I1.hok.fresh M.new
/-- raise Refusal(e) -/
def tRaiseRef (C : Addr) (W : WX) (ta : TA) : TS := fun _ σ H => tMkRef C ta σ H fun cls d H' => W cls d σ H'
theorem ps_raiseRef {a : Expr} {ta : TA} {W : WX} {p pos pos2 : Pos} {k : Nat} (hc : X.calm = true) (T : PySem.RefX.RefTxt X.K X.mg C fI) (hr : Room k X.A) (tk : Takes X W) (ha : PA X [a] ta) (hg : Gl X "Refusal" := by rfl)
    (he : starEach (a :: []) X.env = (false, eval a X.env) :: starEach [] X.env := by rfl) (hpl : (backTo pos (starEach [] X.env)).any (·.1) = false := by rfl) :
    PS X (.Raise (some (.Call (.Name "Refusal" p) [a] [] pos)) none pos2) (tRaiseRef C W ta) := ps_raise hc tk (pmk_ref T hr ha hg he hpl)
/-- e.number, e the exception that the suite holds (at a; its class cls, its dict d) -/
def tNumRef (C : Addr) (a : Addr) (cls : Value) (d : Option Addr) (te : TE) : TE := fun σ H Q => te σ H fun x H1 => x = .ref a ∧ cls = .ref C ∧ ∃ (dd : Addr) (v : V), d = some dd ∧ H1 dd = some (.xd [(("number" : Str), v)]) ∧ Q v H1
theorem pe_numRef {a : Addr} {oe : Obj} {cls : Value} {d : Option Addr} {pn : List (Addr × Obj)} {e : Expr} {te : TE} {pos : Pos} (T : PySem.RefX.RefTxt X.K X.mg C fI) (hz : Zc cls d oe) (hf : ∃ vs, oe.data = .fields vs) (he : PE (X.suite a ((a, oe) :: pn)) e te)
    (hb : attributeBase e "number" X.env (eval e X.env) = eval e X.env := by rfl) :
    PE (X.suite a ((a, oe) :: pn)) (.Attribute e "number" pos) (tNumRef C a cls d te) := by
  refine ⟨fun pins s σ H Q I h => ?_⟩
  refine attr_of hb (thn (he.run pins s σ H _ I h) fun u s1 hh => ?_)
  obtain ⟨x, H1, I1, rx, ex, ec, dd, v, ed, ea, q⟩ := hh
  subst ex
  obtain rfl : u = Value.ref a := rx
  subst ec
  subst ed
  obtain ⟨ha, _⟩ := I1.pin (a, oe) (List.mem_append_left _ List.mem_cons_self)
  obtain ⟨vs, hd⟩ := hf
  have hx : ObjOk X.prog X.w H1 s1.heap dd (.xd [(("number" : Str), v)]) := I1.hok dd _ ea
  obtain ⟨mA, hns, hr⟩ := hx
  obtain ⟨od, ho, hl⟩ := lookIn_ns hns
  have l : List.lookup ("number" : Str) [(("number" : Str), v)] = some v := by simp [List.lookup]
  obtain ⟨u, hu, ru⟩ := RelO.some_of (v := v) (o := mA "number") (by rw [← l]; exact hr "number")
  have J : PySem.W.InstAt s1.heap a oe C (some od) := ⟨ha, hz.1, by unfold PySem.W.notCls; rw [hd] <;> rfl, by rw [hz.2]; exact ho⟩
  exact HandSPX.exc_get I1.kIn J T.ga T.gg T.exC (PySem.W.findObj_own T.hdC T.noN rfl (by rw [hl, hu])) (handed_of ru) ⟨v, H1, I1.tok _, ru, q⟩
end
end L2

/-! ### Words of this proof: what the top has written, defs by name, results -/
namespace N
open PySem L2
/-- a def of the top: its name holds it, its text is st, its parameters are ps -/
structure Top1 (K : PySem.W.Frag) (mg : Str → Option Value) (x : Str) (st : Stmt) (ps : List Str) : Prop where
  ex : ∃ (f : Addr) (fd : FuncData), mg x = some (.ref f) ∧ Fun K x x st f fd ∧ ∀ us : List Value, us.length = ps.length → bindArgs fd ⟨us, []⟩ = pure (ps.zip us)
theorem top1 {K : PySem.W.Frag} {h : Heap} {mg : Str → Option Value} {x : Str} {st : Stmt} {ps : List Str} {f : Addr} {oc : Value} {od an : Option Addr} {osl : Array (Option Value)} {kV doc pm cdv ct : Value} (X : K.In h) (G : h.Ns mainGlobals mg)
    (a : PySem.W.nsIn K mainGlobals x = some (some (.ref f))) (l : K.lookup f = some ⟨oc, od, .func (PySem.W.fnOf x x (defArgs st) (defBody st) (defScope st) .none kV doc pm an cdv ct), osl⟩) (c : PySem.W.codeIn K cdv x = true) (k : PySem.W.keepIn K (.ref f) = true)
    (hb : ∀ (kV doc pm : Value) (an : Option Addr) (cdv ct : Value) (us : List Value), us.length = ps.length → bindArgs (PySem.W.fnOf x x (defArgs st) (defBody st) (defScope st) .none kV doc pm an cdv ct) ⟨us, []⟩ = pure (ps.zip us)) : Top1 K mg x st ps :=
  ⟨⟨f, _, PySem.W.mg_of X G a, fun_mk l c k, hb kV doc pm an cdv ct⟩⟩
/-- a class of the top with an __init__ of its own -/
structure TopC (K : PySem.W.Frag) (mg : Str → Option Value) (x q : Str) (st : Stmt) (ps : List Str) (C : Addr) : Prop where
  mgC : mg x = some (.ref C)
  cl : Cls K C
  ex : ∃ (f : Addr) (fd : FuncData), Mk K C f ∧ Fun K "__init__" q st f fd ∧ Binds K fd ps []
theorem topC {K : PySem.W.Frag} {h : Heap} {mg : Str → Option Value} {x q : Str} {st : Stmt} {ps : List Str} {C f : Addr} {oc : Value} {od an : Option Addr} {osl : Array (Option Value)} {kV doc pm cdv ct : Value} (X : K.In h) (G : h.Ns mainGlobals mg)
    (aC : PySem.W.nsIn K mainGlobals x = some (some (.ref C))) (pg : PySem.W.plainGet K C Str.empty = true) (hd : PySem.W.hasDictIn K C = true) (po : PySem.W.plainOver K C = true) (sa : PySem.W.findIn K (.ref C) "__setattr__" = some (some (.builtin "object.__setattr__")))
    (mk : PySem.W.makesIn K C = true) (kc : PySem.W.keepIn K (.ref C) = true) (a : PySem.W.findIn K (.ref C) "__init__" = some (some (.ref f))) (i : PySem.W.isFn K (.ref f) = true)
    (l : K.lookup f = some ⟨oc, od, .func (PySem.W.fnOf "__init__" q (defArgs st) (defBody st) (defScope st) .none kV doc pm an cdv ct), osl⟩) (c : PySem.W.codeIn K cdv q = true) (k : PySem.W.keepIn K (.ref f) = true)
    (hb : ∀ (kV doc pm : Value) (an : Option Addr) (cdv ct : Value) (us : List Value), us.length = ps.length → bindArgs (PySem.W.fnOf "__init__" q (defArgs st) (defBody st) (defScope st) .none kV doc pm an cdv ct) ⟨us, []⟩ = pure (ps.zip us)) : TopC K mg x q st ps C :=
  ⟨PySem.W.mg_of X G aC, ⟨pg, hd, po, sa⟩, ⟨f, _, ⟨mk, a, i, kc⟩, fun_mk l c k, (fun_mk l c k).binds hb⟩⟩
/-- a class whose instances' fields are read -/
structure ClF (K : PySem.W.Frag) (C : Addr) (fs : List Str) : Prop where
  cl : Cls K C
  no : ∀ f ∈ fs, NoAttr K C f
theorem clf_nil {K : PySem.W.Frag} {C : Addr} (c : Cls K C) : ClF K C [] := ⟨c, fun f h => absurd h (by simp)⟩
theorem clf_cons {K : PySem.W.Frag} {C : Addr} {f : Str} {fs : List Str} (h : PySem.W.findIn K (.ref C) f = some none) (r : ClF K C fs) : ClF K C (f :: fs) := ⟨r.cl, fun g m => by
  rcases List.mem_cons.mp m with e | m
  · rw [e]; exact h
  · exact r.no g m⟩
/-- a constant: a whole number -/
def CI (mg : Str → Option Value) (x : Str) (n : Int) : Prop := ∃ t, mg x = some (.int n t)
theorem ci {K : PySem.W.Frag} {h : Heap} {mg : Str → Option Value} {x : Str} {n : Int} {t : Tok} (X : K.In h) (G : h.Ns mainGlobals mg) (a : PySem.W.nsIn K mainGlobals x = some (some (.int n t))) : CI mg x n := ⟨t, PySem.W.mg_of X G a⟩
/-- a constant: a tuple of whole numbers -/
def CT (K : PySem.W.Frag) (mg : Str → Option Value) (x : Str) (ns : List Int) : Prop := ∃ a, mg x = some (.ref a) ∧ ∀ H : Hp, SqT K H a (ns.map V.int)
theorem ct4 {K : PySem.W.Frag} {h : Heap} {mg : Str → Option Value} {x : Str} {a : Addr} {dd : Option Addr} {n : Nat} {sl : Array (Option Value)} {k1 k2 k3 k4 : Int} {t1 t2 t3 t4 : Tok} (X : K.In h) (G : h.Ns mainGlobals mg) (e : PySem.W.nsIn K mainGlobals x = some (some (.ref a)))
    (l : K.lookup a = some ⟨.type "tuple", dd, .seq #[.int k1 t1, .int k2 t2, .int k3 t3, .int k4 t4] n, sl⟩) : CT K mg x [k1, k2, k3, k4] :=
  ⟨a, PySem.W.mg_of X G e, fun H => .inr ⟨_, _, n, l, rfl, rfl, by show 4 ≤ sizeLine; decide, .cons ⟨_, rfl⟩ (.cons ⟨_, rfl⟩ (.cons ⟨_, rfl⟩ (.cons ⟨_, rfl⟩ .nil)))⟩⟩
theorem ct3 {K : PySem.W.Frag} {h : Heap} {mg : Str → Option Value} {x : Str} {a : Addr} {dd : Option Addr} {n : Nat} {sl : Array (Option Value)} {k1 k2 k3 : Int} {t1 t2 t3 : Tok} (X : K.In h) (G : h.Ns mainGlobals mg) (e : PySem.W.nsIn K mainGlobals x = some (some (.ref a)))
    (l : K.lookup a = some ⟨.type "tuple", dd, .seq #[.int k1 t1, .int k2 t2, .int k3 t3] n, sl⟩) : CT K mg x [k1, k2, k3] :=
  ⟨a, PySem.W.mg_of X G e, fun H => .inr ⟨_, _, n, l, rfl, rfl, by show 3 ≤ sizeLine; decide, .cons ⟨_, rfl⟩ (.cons ⟨_, rfl⟩ (.cons ⟨_, rfl⟩ .nil))⟩⟩

/-- the same, K told by what stands -/
abbrev Top1At {K : PySem.W.Frag} {h : Heap} (_ : K.In h) := Top1 K
abbrev TopCAt {K : PySem.W.Frag} {h : Heap} (_ : K.In h) := TopC K
abbrev ClFAt {K : PySem.W.Frag} {h : Heap} (_ : K.In h) := ClF K
abbrev CTAt {K : PySem.W.Frag} {h : Heap} (_ : K.In h) := CT K
/-- the def of this name keeps the promise sp, by at most level k -/
structure Def (P : Program) (w : World) (K : PySem.W.Frag) (mg : Str → Option Value) (base : Heap) (CX : CXT) (x : Str) (k : Nat) (ps : List Str) (sp : Sp) : Prop where
  ex : ∃ (f : Addr) (fd : FuncData), mg x = some (.ref f) ∧ PySem.W.keepIn K (.ref f) = true ∧ Binds K fd ps [] ∧ (∃ (oc : Value) (od : Option Addr) (osl : Array (Option Value)), K.lookup f = some ⟨oc, od, .func fd, osl⟩) ∧ FnOk P w K mg base CX k f fd ps sp
section
variable {P : Program} {w : World} {K : PySem.W.Frag} {mg : Str → Option Value} {base : Heap}
theorem Def.mono {CX : CXT} {x : Str} {j k : Nat} {ps : List Str} {sp : Sp} (d : Def P w K mg base CX x j ps sp) (h : j ≤ k) : Def P w K mg base CX x k ps sp := by
  obtain ⟨f, fd, a, b, c, l, e⟩ := d.ex
  exact ⟨⟨f, fd, a, b, c, l, e.mono h⟩⟩
theorem _root_.L2.Fun.there {x qual : Str} {st : Stmt} {f : Addr} {fd : FuncData} (F : Fun K x qual st f fd) : ∃ (oc : Value) (od : Option Addr) (osl : Array (Option Value)), K.lookup f = some ⟨oc, od, .func fd, osl⟩ := by
  obtain ⟨oc, od, kV, doc, pm, an, cdv, ct, osl, rfl, lk, hcd⟩ := F.ex
  exact ⟨oc, od, osl, lk⟩
/-- a def that raises nothing: its body's walk -/
theorem Top1.ok {x : Str} {st : Stmt} {L ps : List Str} {k : Nat} {sp : Sp} (T : Top1 K mg x st ps) (S : FnScope L ps (defScope st)) (len : ∀ vs H Q E, sp vs H Q E → vs.length = ps.length)
    (hbody : ∀ (f : Addr) (cdv : Value) (A : Around) (outer : List Env) (s : Shared) (H : Hp) (vs : List V) (Q : VK) (E : XK), Room k (A.deeper (PyProof.Rows.envOfC x (defScope st) s.heap.objs.size f cdv)) → sp vs H Q E →
      ∃ t, PSs (cxOf CX0 P w K mg base L x (defScope st) f cdv A outer s H E).nox (defBody st) t ∧ t { nx := fun _ H' => Q .non H', rt := Q } (start L vs) H) : Def P w K mg base CX0 x (k + 1) ps sp := by
  obtain ⟨f, fd, a, F, b⟩ := T.ex
  exact ⟨⟨f, fd, a, F.kp, Binds.all b, F.there, F.ok S len (hbody f)⟩⟩
/-- a def that may raise -/
theorem Top1.okX {x : Str} {st : Stmt} {L ps : List Str} {k : Nat} {sp : Sp} (T : Top1 K mg x st ps) (S : FnScope L ps (defScope st)) (len : ∀ vs H Q E, sp vs H Q E → vs.length = ps.length)
    (hbody : ∀ (f : Addr) (cdv : Value) (A : Around) (outer : List Env) (s : Shared) (H : Hp) (vs : List V) (Q : VK) (E : XK), Room k (A.deeper (PyProof.Rows.envOfC x (defScope st) s.heap.objs.size f cdv)) → sp vs H Q E →
      ∃ t, PSs (cxOf (L2.CX P w) P w K mg base L x (defScope st) f cdv A outer s H E) (defBody st) t ∧ t { nx := fun _ H' => Q .non H', rt := Q } (start L vs) H) : Def P w K mg base (L2.CX P w) x (k + 1) ps sp := by
  obtain ⟨f, fd, a, F, b⟩ := T.ex
  exact ⟨⟨f, fd, a, F.kp, Binds.all b, F.there, F.okX S len (hbody f)⟩⟩
/-- a class whose __init__ keeps sp, by at most level k -/
structure DefC (P : Program) (w : World) (K : PySem.W.Frag) (mg : Str → Option Value) (base : Heap) (x : Str) (C : Addr) (k : Nat) (ps : List Str) (sp : Sp) : Prop where
  mgC : mg x = some (.ref C)
  ex : ∃ (f : Addr) (fd : FuncData), Mk K C f ∧ Binds K fd ps [] ∧ FnOk P w K mg base CX0 k f fd ps sp
theorem TopC.ok {x q : Str} {st : Stmt} {C : Addr} {L ps : List Str} {k : Nat} {sp : Sp} (T : TopC K mg x q st ps C) (S : FnScope L ps (defScope st)) (len : ∀ vs H Q E, sp vs H Q E → vs.length = ps.length)
    (hbody : ∀ (f : Addr) (cdv : Value) (A : Around) (outer : List Env) (s : Shared) (H : Hp) (vs : List V) (Q : VK) (E : XK), Room k (A.deeper (PyProof.Rows.envOfC q (defScope st) s.heap.objs.size f cdv)) → sp vs H Q E →
      ∃ t, PSs (cxOf CX0 P w K mg base L q (defScope st) f cdv A outer s H E).nox (defBody st) t ∧ t { nx := fun _ H' => Q .non H', rt := Q } (start L vs) H) : DefC P w K mg base x C (k + 1) ps sp := by
  obtain ⟨f, fd, a, F, b⟩ := T.ex
  exact ⟨T.mgC, f, fd, a, b, F.ok S len (hbody f)⟩
end

section
variable {X : Cx} {CX : CXT} {k : Nat} {x : Str} {ps : List Str} {sp : Sp} {p pos : Pos} {e : Expr} {es : List Expr} {t : TA} {E : XK} {C : Addr}
/-- a call of a def by its name -/
theorem pe_fn (d : Def X.prog X.w X.K X.mg X.base CX x k ps sp) (hr : Room k X.A) (hx : Passes CX X E) (ha : PA X (e :: es) t) (hg : Gl X x := by rfl)
    (hdb : (x == ("__debug__" : Str)) = false := by decide) (he : starEach (e :: es) X.env = (false, eval e X.env) :: starEach es X.env := by rfl) (hpl : (backTo pos (starEach es X.env)).any (·.1) = false := by rfl) :
    PE X (.Call (.Name x p) (e :: es) [] pos) (tCall sp [] E t) := by
  obtain ⟨f, fd, a, b, c, _, F⟩ := d.ex
  exact pe_call F hr hg a b c .nil hx ha hdb he hpl
/-- a call where what is raised is wished for at the caller's slots -/
theorem pe_fnS {W : WX} (d : Def X.prog X.w X.K X.mg X.base (L2.CX X.prog X.w) x k ps sp) (hr : Room k X.A) (tk : Takes X W) (ha : PA X (e :: es) t) (hg : Gl X x := by rfl)
    (hdb : (x == ("__debug__" : Str)) = false := by decide) (he : starEach (e :: es) X.env = (false, eval e X.env) :: starEach es X.env := by rfl) (hpl : (backTo pos (starEach es X.env)).any (·.1) = false := by rfl) :
    PE X (.Call (.Name x p) (e :: es) [] pos) (tCallS sp (WE W) t) := by
  obtain ⟨f, fd, a, b, c, _, F⟩ := d.ex
  exact pe_callS F hr hg a b c (fun σ => passAt tk σ) ha hdb he hpl
/-- an instance is made -/
theorem pe_new (d : DefC X.prog X.w X.K X.mg X.base x C k ps sp) (hr : Room (k + 1) X.A) (ha : PA X (e :: es) t) (hg : Gl X x := by rfl)
    (hdb : (x == ("__debug__" : Str)) = false := by decide) (he : starEach (e :: es) X.env = (false, eval e X.env) :: starEach es X.env := by rfl) (hpl : (backTo pos (starEach es X.env)).any (·.1) = false := by rfl) :
    PE X (.Call (.Name x p) (e :: es) [] pos) (tMake C sp [] E0 t) := by
  obtain ⟨f, fd, m, b, F⟩ := d.ex
  exact pe_make m F hr hg d.mgC b .nil pass0 ha hdb he hpl
/-- a constant's name -/
theorem pe_ci {n : Int} (c : CI X.mg x n) (hg : Gl X x := by rfl) (hd : (x == ("__debug__" : Str)) = false := by decide) : PE X (.Name x pos) (tC (.int n)) := by
  obtain ⟨t, h⟩ := c
  exact pe_glob hg h ⟨t, rfl⟩ hd
/-- a constant tuple's name -/
def tCT (K : PySem.W.Frag) (ns : List Int) : TE := fun _ H Q => ∀ a, (∀ H : Hp, SqT K H a (ns.map V.int)) → Q (.ref a) H
theorem pe_ct {ns : List Int} (c : CT X.K X.mg x ns) (hg : Gl X x := by rfl) (hd : (x == ("__debug__" : Str)) = false := by decide) : PE X (.Name x pos) (tCT X.K ns) := by
  obtain ⟨a, h, q⟩ := c
  refine ⟨fun pins s σ H Q I hw => ?_⟩
  exact (pe_glob hg h (v := .ref a) rfl hd).run pins s σ H Q I (hw a q)
end

/-! ### results -/
/-- a refusal with number n leaves: E at some later heap -/
def Fails (C : Addr) (E : XK) (H : Hp) (n : Int) : Prop := ∀ (d : Addr) (H' : Hp), Same H H' → H' d = some (.xd [(("number" : Str), .int n)]) → E (.ref C) (some d) H'
/-- what a def answers: a value that stands for x, or the refusal -/
def Out {α : Type} (C : Addr) (Q : VK) (E : XK) (H : Hp) (R : α → V → Hp → Prop) : Except Int α → Prop
  | .ok x => ∀ (v : V) (H' : Hp), Same H H' → R x v H' → Q v H'
  | .error n => Fails C E H n
/-- a value alone, no refusal -/
def Got (Q : VK) (H : Hp) (R : V → Hp → Prop) : Prop := ∀ (v : V) (H' : Hp), Same H H' → R v H' → Q v H'
theorem Got.back {Q : VK} {H H1 : Hp} {R : V → Hp → Prop} (e : Same H H1) (g : Got Q H R) : Got Q H1 R := fun v H' a r => g v H' (e.trans a) r
theorem Fails.back {C : Addr} {E : XK} {H H1 : Hp} {n : Int} (e : Same H H1) (g : Fails C E H n) : Fails C E H1 n := fun d H' a r => g d H' (e.trans a) r
theorem same_new {H : Hp} {p : Addr} (h : H p = none) (o : HO) : Same H (upd H p o) := fun b u q => by rw [upd_ne (ne_of_none q h)]; exact q
/-- an object that H does not know changes -/
theorem Same.mut {H H' : Hp} {p : Addr} {o : HO} (e : Same H H') (h : H p = none) : Same H (upd H' p o) := fun a u ha => by
  rw [upd_ne (ne_of_none ha h)]
  exact e a u ha
theorem getI {ns : List Int} {i : Nat} {y : V} (h : (ns.map V.int)[i]? = some y) : ∃ z, ns[i]? = some z ∧ y = V.int z := by
  rw [List.getElem?_map] at h
  cases e : ns[i]? with
  | none =>
    rw [e] at h
    cases h
  | some z =>
    rw [e] at h
    exact ⟨z, rfl, (Option.some.inj h).symm⟩
theorem atI_int {ns : List Int} {i : Int} {z : Int} (h0 : 0 ≤ i) (h : ns[i.toNat]? = some z) : atI (ns.map V.int) i = some (.int z) := by
  have e : i = ((i.toNat : Nat) : Int) := by omega
  rw [e]
  refine atI_nat ?_
  rw [List.getElem?_map, h]
  rfl
theorem itT {c A B : Prop} [Decidable c] (hc : c) (h : A) : if decide c = true then A else B := by
  rw [if_pos (decide_eq_true hc)]
  exact h
theorem itF {c A B : Prop} [Decidable c] (hc : ¬ c) (h : B) : if decide c = true then A else B := by
  rw [if_neg (fun z => hc (of_decide_eq_true z))]
  exact h
theorem ifT {b : Bool} {A B : Prop} (hc : b = true) (h : A) : if b = true then A else B := by
  rw [if_pos hc]
  exact h
theorem ifF {b : Bool} {A B : Prop} (hc : b = false) (h : B) : if b = true then A else B := by
  rw [if_neg (by rw [hc]; exact Bool.false_ne_true)]
  exact h
end N
/-! ### the end: from the promise of the row's def to the row -/
namespace N
open PySem L2
theorem exm_self {K : PySem.W.Frag} {S : Addr} (h1 : PySem.W.subIn K (.ref S) (.type "BaseException") = some true) (h2 : PySem.W.isClsIn K S = true) (h3 : PySem.W.typeIn K (.ref S) = some (.type "type")) (h4 : PySem.W.subIn K (.ref S) (.ref S) = some true) :
    PySem.W.exmOne K (.ref S) (.ref S) = some true := by
  have e1 : (PySem.W.subIn K (.ref S) (.type "BaseException") == some true) = true := by rw [h1] <;> rfl
  have e2 : ((PySem.W.clsIn K S).isSome && PySem.W.typeIn K (.ref S) == some (.type "type")) = true := by
    have h2' : (PySem.W.clsIn K S).isSome = true := h2
    rw [h2', h3] <;> rfl
  show (if (PySem.W.subIn K (.ref S) (.type "BaseException") == some true) = true then (if ((PySem.W.clsIn K S).isSome && PySem.W.typeIn K (.ref S) == some (.type "type")) = true then PySem.W.subIn K (.ref S) (.ref S) else none) else none) = some true
  rw [if_pos e1, if_pos e2]
  exact h4
abbrev RefTxtAt {K : PySem.W.Frag} {h : Heap} (_ : K.In h) := PySem.RefX.RefTxt K
theorem refTxt {K : PySem.W.Frag} {h : Heap} {mg : Str → Option Value} {C f1 : Addr} (X : K.In h) (G : h.Ns mainGlobals mg) {nm q : Str} {N : Addr} {bs : List Value} {sn : List Str} {sub : List Value} {ab : Bool} {col : Option Bool} {dd : Option Addr} {m0 m1 m2 m3 m5 : Option Value}
    {od1 an1 : Option Addr} {sl1 : Array (Option Value)} {oc1 dc1 pm1 cd1 ct1 : Value} {p1 p2 q1 q2 q3 q4 : Pos}
    (aC : PySem.W.nsIn K mainGlobals "Refusal" = some (some (.ref C)))
    (xL : K.lookup C = some (excClassObj nm q C N bs [.type "Exception", .type "BaseException", .type "object"] true sn sub ab col dd m0 m1 m2 m3 m5 "Exception.__new__"))
    (sa : PySem.W.findIn K (.ref C) "__setattr__" = some (some (.builtin "object.__setattr__"))) (ga : PySem.W.findIn K (.ref C) "__getattribute__" = some (some (.builtin "BaseException.__getattribute__"))) (gg : PySem.W.findIn K (.ref C) "__getattr__" = some none) (nb : PySem.W.findIn K (.ref C) "number" = some none)
    (a1 : PySem.W.findIn K (.ref C) "__init__" = some (some (.ref f1))) (t1 : PySem.W.typeIn K (.ref f1) = some (.type "function"))
    (l1 : K.lookup f1 = some ⟨oc1, od1, .func (PySem.W.fnOf "__init__" "Refusal.__init__" (PySem.RefX.iA p1 p2) (PySem.RefX.iB q1 q2 q3 q4) PySem.RefX.iS .none .none dc1 pm1 an1 cd1 ct1), sl1⟩) (c1 : PySem.W.codeIn K cd1 "Refusal.__init__" = true)
    (kC : PySem.W.keepIn K (.ref C) = true) (eC : PySem.W.subIn K (.ref C) (.type "BaseException") = some true) (tC : PySem.W.typeIn K (.ref C) = some (.type "type")) (hC : PySem.W.hasDictIn K C = true) (iC : PySem.W.isClsIn K C = true) (sC : PySem.W.subIn K (.ref C) (.ref C) = some true) : PySem.RefX.RefTxt K mg C f1 :=
  { gC := PySem.W.mg_of X G aC, cls := ⟨nm, q, N, bs, sn, sub, ab, col, dd, m0, m1, m2, m3, m5, xL⟩, sa := sa, ga := ga, gg := gg, noN := nb, iC := a1, tC := t1, kC := kC, exC := eC, tyC := tC, hdC := hC, te := exm_self eC iC tC sC, fn := ⟨_, _, _, _, _, _, _, _, _, _, _, _, _, _, l1, c1⟩ }
theorem top_end {P : Program} {w : World} {K : PySem.W.Frag} {mg : Str → Option Value} {x : Str} {st : Stmt} {ps : List Str} {k : Nat} {sp : Sp} {fa : Addr} (T : Top1 K mg x st ps) (hfa : mg x = some (.ref fa))
    (D : ∀ base : Heap, K.In base → base.Ns mainGlobals mg → Def P w K mg base CX0 x k ps sp) :
    ∃ fd : FuncData, (∀ (s : Shared) (us : List Value), us.length = ps.length → BindsTo s fd ⟨us, []⟩ (ps.zip us)) ∧ ∀ base : Heap, K.In base → base.Ns mainGlobals mg → FnOk P w K mg base CX0 k fa fd ps sp := by
  obtain ⟨f, fd, a, F, b⟩ := T.ex
  have e := hfa.symm.trans a
  cases e
  refine ⟨fd, fun s us hu => .of_eq (b us hu), fun base h1 h2 => ?_⟩
  obtain ⟨f', fd', a', k', b', ⟨oc, od, osl, lk⟩, ok⟩ := (D base h1 h2).ex
  have e := a.symm.trans a'
  cases e
  obtain ⟨oc2, od2, kV, doc, pm, an, cdv, ct, osl2, e2, lk2, _⟩ := F.ex
  have e3 := lk.symm.trans lk2
  injection e3 with e4
  injection e4 with _ _ e5 _
  injection e5 with e6
  subst e6
  exact ok
/-- arguments: bytes, whole numbers -/
theorem arg_bytes {m : Nat} {ns : List Int} (h : PySem.W.Codec.within (.list 0 m (.int (Int.ofNat 0) (Int.ofNat 255))) ns = true) : ∃ t : List Nat, ns = t.map (fun (n : Nat) => (n : Int)) ∧ t.length ≤ m ∧ ∀ c ∈ t, c ≤ 255 := by
  have h : (PySem.W.Codec.inLen 0 m ns && ns.all (PySem.W.Codec.inInt (Int.ofNat 0) (Int.ofNat 255))) = true := h
  obtain ⟨h1, h2⟩ := Bool.and_eq_true_iff.mp h
  have h1 : (decide (0 ≤ ns.length) && decide (ns.length ≤ m)) = true := h1
  have hl : ns.length ≤ m := of_decide_eq_true (Bool.and_eq_true_iff.mp h1).2
  have hall : ∀ n ∈ ns, (0 : Int) ≤ n ∧ n ≤ 255 := fun n hn => by
    have q : (decide ((0 : Int) ≤ n) && decide (n ≤ 255)) = true := List.all_eq_true.mp h2 n hn
    obtain ⟨a, b⟩ := Bool.and_eq_true_iff.mp q
    exact ⟨of_decide_eq_true a, of_decide_eq_true b⟩
  refine ⟨ns.map Int.toNat, ?_, by rw [List.length_map]; exact hl, fun c hc => ?_⟩
  · rw [List.map_map]
    conv => lhs; rw [← List.map_id ns]
    exact List.map_congr_left fun n hn => by
      have := (hall n hn).1
      show n = ((n.toNat : Nat) : Int)
      omega
  · obtain ⟨n, hn, rfl⟩ := List.mem_map.mp hc
    have := hall n hn
    omega
theorem arg_ints {m : Nat} {lo hi : Int} {ns : List Int} (h : PySem.W.Codec.within (.list 0 m (.int lo hi)) ns = true) : ns.length ≤ m ∧ ∀ n ∈ ns, lo ≤ n ∧ n ≤ hi := by
  have h : (PySem.W.Codec.inLen 0 m ns && ns.all (PySem.W.Codec.inInt lo hi)) = true := h
  obtain ⟨h1, h2⟩ := Bool.and_eq_true_iff.mp h
  have h1 : (decide (0 ≤ ns.length) && decide (ns.length ≤ m)) = true := h1
  refine ⟨of_decide_eq_true (Bool.and_eq_true_iff.mp h1).2, fun n hn => ?_⟩
  have q : (decide (lo ≤ n) && decide (n ≤ hi)) = true := List.all_eq_true.mp h2 n hn
  obtain ⟨a, b⟩ := Bool.and_eq_true_iff.mp q
  exact ⟨of_decide_eq_true a, of_decide_eq_true b⟩
theorem arg_int {lo hi n : Int} (h : PySem.W.Codec.within (.int lo hi) n = true) : lo ≤ n ∧ n ≤ hi := by
  have q : (decide (lo ≤ n) && decide (n ≤ hi)) = true := h
  obtain ⟨a, b⟩ := Bool.and_eq_true_iff.mp q
  exact ⟨of_decide_eq_true a, of_decide_eq_true b⟩
theorem text_ok {t : List Nat} (h : ∀ c ∈ t, c ≤ 255) : VaarrmNeutral.text (t.map fun (n : Nat) => (n : Int)) = some t := by
  unfold VaarrmNeutral.text
  have e : NeutralIO.bytes (t.map fun (n : Nat) => (n : Int)) = true := by
    unfold NeutralIO.bytes
    rw [List.all_eq_true]
    intro n hn
    obtain ⟨c, hc, rfl⟩ := List.mem_map.mp hn
    have := h c hc
    simp only [Bool.and_eq_true, decide_eq_true_eq]
    omega
  rw [if_pos e, List.map_map]
  congr 1
  conv => rhs; rw [← List.map_id t]
  exact List.map_congr_left fun n _ => by
    show ((n : Int)).toNat = n
    exact Int.toNat_natCast n
end N
/-! ### Plain Lean: a text's places, blanks, digits -/
namespace N
/-- how many at the head fulfil p -/
def runLen {α : Type} (p : α → Bool) (l : List α) : Nat := (l.takeWhile p).length
theorem runLen_le {α : Type} (p : α → Bool) : ∀ l : List α, runLen p l ≤ l.length
  | [] => Nat.le_refl _
  | a :: l => by
    unfold runLen
    by_cases h : p a = true
    · rw [List.takeWhile_cons_of_pos h]
      exact Nat.succ_le_succ (runLen_le p l)
    · rw [List.takeWhile_cons_of_neg h]
      exact Nat.zero_le _
/-- i at the head do, the next one doesn't -/
theorem runLen_stop {α : Type} (p : α → Bool) : ∀ (l : List α) (i : Nat) (x : α), (∀ j y, j < i → l[j]? = some y → p y = true) → l[i]? = some x → p x = false → runLen p l = i
  | [], i, x, _, h, _ => by simp at h
  | a :: l, 0, x, _, h, hx => by
    have e : a = x := Option.some.inj h
    subst e
    unfold runLen
    rw [List.takeWhile_cons_of_neg (by rw [hx]; exact Bool.false_ne_true)]
    rfl
  | a :: l, i + 1, x, ha, h, hx => by
    have h0 : p a = true := ha 0 a (Nat.succ_pos _) rfl
    have ih := runLen_stop p l i x (fun j y hj e => ha (j + 1) y (Nat.succ_lt_succ hj) e) h hx
    unfold runLen at ih ⊢
    rw [List.takeWhile_cons_of_pos h0, List.length_cons, ih]
theorem runLen_all {α : Type} (p : α → Bool) : ∀ (l : List α), (∀ j y, j < l.length → l[j]? = some y → p y = true) → runLen p l = l.length
  | [], _ => rfl
  | a :: l, ha => by
    have h0 : p a = true := ha 0 a (Nat.succ_pos _) rfl
    have ih := runLen_all p l fun j y hj e => ha (j + 1) y (Nat.succ_lt_succ hj) e
    unfold runLen at ih ⊢
    rw [List.takeWhile_cons_of_pos h0, List.length_cons, List.length_cons, ih]
def isBlank (c : Nat) : Bool := c == 32 || (c == 9 || (c == 10 || c == 13))
def isDigit (c : Nat) : Bool := decide (48 ≤ c ∧ c ≤ 57)
/-- the number that digits tell, held at most at 10^18 + 1 -/
def held (n : Int) : Int := if 1000000000000000001 < n then 1000000000000000001 else n
def heldNum (l : List Nat) : Int := l.foldl (fun (n : Int) (c : Nat) => held (n * 10 + (c : Int) - 48)) 0
end N
namespace N
open PySem L2
def top (i : Nat) : Stmt := PySem.Challenge.pw_nestarray_s24_unflat.main.body.getD i (.Pass ⟨0, 0, 0, 0⟩)
abbrev sRefusalInit : Stmt := inClass (top 4) 0
abbrev sArrInit : Stmt := inClass (top 11) 0
abbrev sVector : Stmt := top 12
abbrev sIsNumber : Stmt := top 13
abbrev sProduct : Stmt := top 14
abbrev sIsShape : Stmt := top 15
abbrev sWithinBounds : Stmt := top 16
abbrev sWalk : Stmt := top 17
abbrev sDeepest : Stmt := top 18
abbrev sWithinLimits : Stmt := top 19
abbrev sAllShapes : Stmt := top 20
abbrev sComeOut : Stmt := top 21
abbrev sRunsOf : Stmt := top 28
abbrev sCutLists : Stmt := top 29
abbrev sLookSums : Stmt := top 30
abbrev sLookLeaves : Stmt := top 31
abbrev sUnflattened : Stmt := top 32
abbrev sDigits : Stmt := top 35
abbrev sNumberText : Stmt := top 36
abbrev sExtentsText : Stmt := top 37
abbrev sValueText : Stmt := top 38
abbrev sValueAnswer : Stmt := top 39
abbrev sLookKind : Stmt := top 41
abbrev sUnflat : Stmt := top 43
end N
namespace N
open PySem L2
/-- the values of a text -/
def Bs (t : List Nat) : List V := t.map fun (n : Nat) => V.int (n : Int)
theorem Bs_map (t : List Nat) : (t.map fun (n : Nat) => (n : Int)).map V.int = Bs t := by
  rw [List.map_map]
  rfl
theorem Bs_len (t : List Nat) : (Bs t).length = t.length := List.length_map _
theorem Bs_at {t : List Nat} {i : Nat} {c : Nat} (h : t[i]? = some c) : (Bs t)[i]? = some (.int (c : Int)) := by
  unfold Bs
  rw [List.getElem?_map, h]
  rfl
theorem Bs_atI {t : List Nat} {i : Int} {c : Nat} (h0 : 0 ≤ i) (h : t[i.toNat]? = some c) : atI (Bs t) i = some (.int (c : Int)) := by
  have e : i = ((i.toNat : Nat) : Int) := by omega
  rw [e]
  exact atI_nat (Bs_at h)
theorem Bs_get {t : List Nat} {i : Nat} {y : V} (h : (Bs t)[i]? = some y) : ∃ n, t[i]? = some n ∧ y = .int (n : Int) := by
  unfold Bs at h
  rw [List.getElem?_map] at h
  cases e : t[i]? with
  | none =>
    rw [e] at h
    cases h
  | some n =>
    rw [e] at h
    exact ⟨n, rfl, (Option.some.inj h).symm⟩
theorem eqV_nat (c k : Nat) : eqV (.int (k : Int)) (.int (c : Int)) = (c == k) := by
  show ((k : Int) == (c : Int)) = (c == k)
  by_cases h : c = k
  · subst h
    rw [beq_self_eq_true, beq_self_eq_true]
  · rw [beq_eq_false_iff_ne.mpr h, beq_eq_false_iff_ne.mpr (fun z => h (Int.ofNat_inj.mp z.symm))]
theorem blank_in (c : Nat) : inV (.int (c : Int)) (([32, 9, 10, 13] : List Int).map V.int) = isBlank c := by
  show (eqV (.int ((32 : Nat) : Int)) (.int (c : Int)) || (eqV (.int ((9 : Nat) : Int)) (.int (c : Int)) || (eqV (.int ((10 : Nat) : Int)) (.int (c : Int)) || (eqV (.int ((13 : Nat) : Int)) (.int (c : Int)) || false)))) = _
  rw [eqV_nat, eqV_nat, eqV_nat, eqV_nat, Bool.or_false]
  rfl
theorem sign_in (c : Nat) : inV (.int (c : Int)) (([91, 58, 93] : List Int).map V.int) = (c == 91 || (c == 58 || c == 93)) := by
  show (eqV (.int ((91 : Nat) : Int)) (.int (c : Int)) || (eqV (.int ((58 : Nat) : Int)) (.int (c : Int)) || (eqV (.int ((93 : Nat) : Int)) (.int (c : Int)) || false))) = _
  rw [eqV_nat, eqV_nat, eqV_nat, Bool.or_false]
theorem at_shift {t : List Nat} {k i : Nat} (h : k + i < t.length) : t[((k : Int) + (i : Int)).toNat]? = some t[k + i] ∧ (t.drop k)[i]? = some t[k + i] := by
  refine ⟨?_, ?_⟩
  · rw [show ((k : Int) + (i : Int)).toNat = k + i by omega]
    exact List.getElem?_eq_getElem h
  · rw [List.getElem?_drop]
    exact List.getElem?_eq_getElem h
theorem all_more {α : Type} {p : α → Bool} {l : List α} {i : Nat} {x : α} (h : l[i]? = some x) (hx : p x = true) (ha : ∀ j y, j < i → l[j]? = some y → p y = true) : ∀ j y, j < i + 1 → l[j]? = some y → p y = true := fun j y hj e => by
  by_cases z : j = i
  · subst z
    rw [h] at e
    rw [← Option.some.inj e]
    exact hx
  · exact ha j y (by omega) e
theorem take_more {α : Type} : ∀ {l : List α} {i : Nat} {x : α}, l[i]? = some x → l.take (i + 1) = l.take i ++ [x]
  | [], i, x, h => by simp at h
  | a :: l, 0, x, h => by
    have e : a = x := Option.some.inj h
    subst e
    rfl
  | a :: l, i + 1, x, h => by
    have ih := take_more (l := l) (i := i) (x := x) h
    show a :: l.take (i + 1) = a :: l.take i ++ [x]
    rw [ih]
    rfl
theorem heldNum_more {l : List Nat} {i : Nat} {c : Nat} (h : l[i]? = some c) : heldNum (l.take (i + 1)) = held (heldNum (l.take i) * 10 + (c : Int) - 48) := by
  rw [take_more h]
  unfold heldNum
  rw [List.foldl_append]
  rfl
theorem held_bounds {n : Int} (h : 0 ≤ n) : 0 ≤ held n ∧ held n ≤ 1000000000000000001 := by
  unfold held
  split <;> omega
theorem heldNum_go : ∀ (l : List Nat) (n : Int), (∀ c ∈ l, isDigit c = true) → 0 ≤ n ∧ n ≤ 1000000000000000001 → 0 ≤ l.foldl (fun (n : Int) (c : Nat) => held (n * 10 + (c : Int) - 48)) n ∧ l.foldl (fun (n : Int) (c : Nat) => held (n * 10 + (c : Int) - 48)) n ≤ 1000000000000000001
  | [], _, _, h => h
  | c :: l, n, hd, h => by
    have hc : 48 ≤ c ∧ c ≤ 57 := of_decide_eq_true (hd c List.mem_cons_self)
    exact heldNum_go l _ (fun x hx => hd x (List.mem_cons_of_mem _ hx)) (held_bounds (by omega))
theorem heldNum_bounds (l : List Nat) (hd : ∀ c ∈ l, isDigit c = true) : 0 ≤ heldNum l ∧ heldNum l ≤ 1000000000000000001 := heldNum_go l 0 hd ⟨by omega, by omega⟩
end N
namespace N
open PySem L2
/-! ### Arr, and what stands for a value -/
abbrev U := Vaarrm.V
def arrF (e m : Addr) : List (Str × L2.V) := [("extents", .ref e), ("members", .ref m)]
theorem arrF_put (e m : Addr) : putF "members" (.ref m) (putF "extents" (.ref e) []) = arrF e m := by
  show (if ("extents" : Str) = "members" then _ else (("extents" : Str), L2.V.ref e) :: putF "members" (L2.V.ref m) []) = _
  rw [if_neg (by decide +kernel)]
  rfl
theorem arrF_ext (e m : Addr) : (arrF e m).lookup ("extents" : Str) = some (.ref e) := by
  unfold arrF
  rw [List.lookup_cons, show (("extents" : Str) == "extents") = true by decide +kernel]
theorem arrF_mem (e m : Addr) : (arrF e m).lookup ("members" : Str) = some (.ref m) := by
  unfold arrF
  rw [List.lookup_cons, show (("members" : Str) == "extents") = false by decide +kernel, List.lookup_cons, show (("members" : Str) == "members") = true by decide +kernel]
/-- the class facts that isinstance asks -/
structure ArrIs (K : PySem.W.Frag) (C : Addr) : Prop where
  cc : PySem.W.findIn K (.ref C) "__class__" = some (some (.builtin "object.__class__"))
  cg : PySem.W.specialIn K (.builtin "object.__class__") "__get__" = some (some (.builtin "getset_descriptor.__get__"))
  ct : PySem.W.takesIn K (.builtin "object.__class__") = some true
  co : PySem.W.mroIn K C (.type "object") = some true
  ci : PySem.W.subIn K (.ref C) (.type "int") = some false
abbrev ArrIsAt {K : PySem.W.Frag} {h : Heap} (_ : K.In h) := ArrIs K
theorem ArrIs.no {K : PySem.W.Frag} {C : Addr} (h : ArrIs K C) : PySem.W.kitOne K (.ref C) (.type "int") = some false := by
  unfold PySem.W.kitOne
  rw [if_neg (show ¬ ((Value.ref C == Value.type "int") = true) from by simp)]
  show (if PySem.W.kitMeta "int" = true then PySem.W.subIn K (.ref C) (.type "int") else none) = some false
  rw [if_pos (by decide +kernel)]
  exact h.ci
mutual
/-- x stands for the value v in the heap H -/
inductive Rep (C : Addr) (H : Hp) : L2.V → U → Prop
  | num (n : Int) (h : -1000000000000000000 ≤ n ∧ n ≤ 1000000000000000000) : Rep C H (.int n) (.num n)
  | arr {x dx e m : Addr} {s : List Nat} {us : List L2.V} {l : List U} (hx : H x = some (.ins C dx (arrF e m))) (he : H e = some (.lst (Bs s))) (hm : H m = some (.lst us)) (hb : ∀ n ∈ s, n ≤ 1000000000000000000) (hl : Reps C H us l) : Rep C H (.ref x) (.arr s l)
inductive Reps (C : Addr) (H : Hp) : List L2.V → List U → Prop
  | nil : Reps C H [] []
  | cons {u : L2.V} {us : List L2.V} {v : U} {l : List U} (h : Rep C H u v) (t : Reps C H us l) : Reps C H (u :: us) (v :: l)
end
mutual
theorem Rep.mono {C : Addr} {H H' : Hp} (e : Same H H') {u : L2.V} : {v : U} → Rep C H u v → Rep C H' u v
  | _, .num n h => .num n h
  | _, .arr hx he hm hb hl => .arr (e _ _ hx) (e _ _ he) (e _ _ hm) hb (hl.mono e)
theorem Reps.mono {C : Addr} {H H' : Hp} (e : Same H H') {us : List L2.V} : {l : List U} → Reps C H us l → Reps C H' us l
  | _, .nil => .nil
  | _, .cons h t => .cons (h.mono e) (t.mono e)
end
theorem Reps.length {C : Addr} {H : Hp} : ∀ {us : List L2.V} {l : List U}, Reps C H us l → us.length = l.length
  | _, _, .nil => rfl
  | _, _, .cons _ t => by rw [List.length_cons, List.length_cons, t.length]
theorem Reps.get {C : Addr} {H : Hp} : ∀ {us : List L2.V} {l : List U} {i : Nat} {u : L2.V}, Reps C H us l → us[i]? = some u → ∃ v, l[i]? = some v ∧ Rep C H u v
  | _, _, _, _, .nil, e => by simp at e
  | _, _, 0, _, .cons h _, e => ⟨_, rfl, by rw [← Option.some.inj e]; exact h⟩
  | _, _, i + 1, _, .cons _ t, e => by
    obtain ⟨v, a, b⟩ := Reps.get (i := i) t e
    exact ⟨v, a, b⟩
theorem Reps.got {C : Addr} {H : Hp} : ∀ {us : List L2.V} {l : List U} {i : Nat} {v : U}, Reps C H us l → l[i]? = some v → ∃ u, us[i]? = some u ∧ Rep C H u v
  | _, _, _, _, .nil, e => by simp at e
  | _, _, 0, _, .cons h _, e => ⟨_, rfl, by rw [← Option.some.inj e]; exact h⟩
  | _, _, i + 1, _, .cons _ t, e => by
    obtain ⟨v, a, b⟩ := Reps.got (i := i) t e
    exact ⟨v, a, b⟩
theorem Reps.append {C : Addr} {H : Hp} : ∀ {us ws : List L2.V} {l m : List U}, Reps C H us l → Reps C H ws m → Reps C H (us ++ ws) (l ++ m)
  | _, _, _, _, .nil, h => h
  | _, _, _, _, .cons a b, h => .cons a (b.append h)
theorem Reps.one {C : Addr} {H : Hp} {u : L2.V} {v : U} (h : Rep C H u v) : Reps C H [u] [v] := .cons h .nil
theorem Reps.drop {C : Addr} {H : Hp} : ∀ {us : List L2.V} {l : List U} (n : Nat), Reps C H us l → Reps C H (us.drop n) (l.drop n)
  | _, _, 0, h => h
  | _, _, _ + 1, .nil => .nil
  | _, _, n + 1, .cons _ t => Reps.drop n t
theorem Reps.take {C : Addr} {H : Hp} : ∀ {us : List L2.V} {l : List U} (n : Nat), Reps C H us l → Reps C H (us.take n) (l.take n)
  | _, _, 0, _ => .nil
  | _, _, _ + 1, .nil => .nil
  | _, _, n + 1, .cons a t => .cons a (Reps.take n t)
theorem Reps.reverse {C : Addr} {H : Hp} {us : List L2.V} {l : List U} (h : Reps C H us l) : Reps C H us.reverse l.reverse := by
  induction us generalizing l with
  | nil => cases h; exact .nil
  | cons u us ih =>
    cases h with
    | cons a t =>
      rw [List.reverse_cons, List.reverse_cons]
      exact (ih t).append (.one a)
/-- the two kinds of value apart -/
theorem Rep.of_num {C : Addr} {H : Hp} {u : L2.V} {n : Int} (h : Rep C H u (.num n)) : u = .int n ∧ -1000000000000000000 ≤ n ∧ n ≤ 1000000000000000000 := by
  cases h with
  | num n h => exact ⟨rfl, h⟩
theorem Rep.of_arr {C : Addr} {H : Hp} {u : L2.V} {s : List Nat} {l : List U} (h : Rep C H u (.arr s l)) : ∃ (x dx e m : Addr) (us : List L2.V), u = .ref x ∧ H x = some (.ins C dx (arrF e m)) ∧ H e = some (.lst (Bs s)) ∧ H m = some (.lst us) ∧ (∀ n ∈ s, n ≤ 1000000000000000000) ∧ Reps C H us l := by
  cases h with
  | arr hx he hm hb hl => exact ⟨_, _, _, _, _, rfl, hx, he, hm, hb, hl⟩
/-- the type of what stands for a value -/
theorem Rep.isInt {K : PySem.W.Frag} {C : Addr} {H : Hp} {u : L2.V} {v : U} (F : Cls K C) (A : ArrIs K C) (h : Rep C H u v) : ∃ t : Value, TyX K H u t ∧ PySem.W.kitOne K t (.type "int") = some (Vaarrm.isNum v) := by
  cases h with
  | num n h => exact ⟨_, .base (.int n), kit_ty (show kitB "int" "int" = some true by decide +kernel)⟩
  | arr hx he hm hb hl => exact ⟨_, .base (.ins hx F A.cc A.cg A.ct A.co), A.no⟩
def spArrInit (C : Addr) : Sp := fun vs H Q _ => ∃ (p dx e m : Addr), vs = [.ref p, .ref e, .ref m] ∧ H p = some (.ins C dx []) ∧ Q .non (upd H p (.ins C dx (arrF e m)))
section
variable {P : Program} {w : World} {K : PySem.W.Frag} {mg : Str → Option Value} {base : Heap} {CArr : Addr}
theorem sc_ArrInit : FnScope ["self", "extents", "members"] ["self", "extents", "members"] (defScope sArrInit) := ⟨rfl, rfl, rfl, by decide +kernel, rfl, by decide +kernel, by decide +kernel⟩
theorem ok_ArrInit (T : TopC K mg "Arr" "Arr.__init__" sArrInit ["self", "extents", "members"] CArr) (F : ClF K CArr ["extents", "members"]) : DefC P w K mg base "Arr" CArr 1 ["self", "extents", "members"] (spArrInit CArr) := by
  refine T.ok sc_ArrInit (fun vs H Q E h => ?_) (fun f cdv A outer s H vs Q E hr h => ?_)
  · obtain ⟨p, dx, e, m, rfl, _⟩ := h
    rfl
  obtain ⟨p, dx, e, m, rfl, hp, q⟩ := h
  refine ⟨_, pss_cons (ps_fld (pv 0) (pv 1) rfl) (pss_one (ps_fld (pv 0) (pv 2) rfl)), ?_⟩
  refine ⟨_, rfl, _, rfl, p, CArr, dx, _, rfl, hp, F.cl, F.no _ (by simp), (by show 0 < 1000; decide), _, rfl, _, rfl, p, CArr, dx, _, rfl, upd_same, F.cl, F.no _ (by simp), (by show 1 < 1000; decide), ?_⟩
  rw [arrF_put, upd_upd]
  exact q
/-- Arr(e, m): the end of its reading -/
theorem new_arr {H1 : Hp} {Q : VK} {E : XK} {e m : Addr} (q : ∀ (x dx : Addr) (H2 : Hp), H1 x = none → Same H1 H2 → H2 x = some (.ins CArr dx (arrF e m)) → Q (.ref x) H2) :
    ∀ x dx, H1 x = none → H1 dx = none → dx ≠ x → spArrInit CArr (.ref x :: ([.ref e, .ref m] ++ [])) (upd (upd H1 dx (.own x)) x (.ins CArr dx [])) (fun v H2 => v = .non ∧ Q (.ref x) H2) E := by
  intro x dx nx nd ne
  refine ⟨x, dx, e, m, rfl, upd_same, rfl, ?_⟩
  rw [upd_upd]
  have e1 : Same H1 (upd H1 dx (.own x)) := same_new nd _
  have e2 : Same H1 (upd (upd H1 dx (.own x)) x (.ins CArr dx (arrF e m))) := Same.mut e1 nx
  exact q x dx _ nx e2 upd_same
end
end N
namespace N
open PySem L2
/-! ### Frames: Hf is the part of the heap on which values lean; lists that still change stand outside of it -/
/-- from H to H', the part Hf grows to Hf' by new places alone -/
structure Grow (H H' Hf Hf' : Hp) : Prop where
  same : Same H H'
  ff : Same Hf Hf'
  fh : Same Hf' H'
  new : ∀ b o, H b = some o → Hf' b = Hf b
theorem Grow.refl {H Hf : Hp} (h : Same Hf H) : Grow H H Hf Hf := ⟨Same.refl _, Same.refl _, h, fun _ _ _ => rfl⟩
theorem Grow.of {H H' Hf : Hp} (h : Same Hf H) (e : Same H H') : Grow H H' Hf Hf := ⟨e, Same.refl _, h.trans e, fun _ _ _ => rfl⟩
theorem Grow.trans {H H1 H2 Hf Hf1 Hf2 : Hp} (a : Grow H H1 Hf Hf1) (b : Grow H1 H2 Hf1 Hf2) : Grow H H2 Hf Hf2 :=
  ⟨a.same.trans b.same, a.ff.trans b.ff, b.fh, fun c o h => (b.new c o (a.same c o h)).trans (a.new c o h)⟩
theorem Grow.on {H H1 H2 Hf Hf1 : Hp} (a : Grow H H1 Hf Hf1) (b : Same H1 H2) : Grow H H2 Hf Hf1 := a.trans (Grow.of a.fh b)
/-- a list outside of the part changes -/
theorem Grow.mut {H H' Hf Hf' : Hp} {D : Addr} {o : HO} (a : Grow H H' Hf Hf') (h : H D = none) (hf : Hf' D = none) : Grow H (upd H' D o) Hf Hf' :=
  ⟨Same.mut a.same h, a.ff, Same.mut a.fh hf, a.new⟩
/-- what was outside stays outside -/
theorem Grow.out {H H' Hf Hf' : Hp} {D : Addr} {o : HO} (a : Grow H H' Hf Hf') (h : H D = some o) (hf : Hf D = none) : Hf' D = none := by rw [a.new D o h]; exact hf
/-- a new object is taken into the part -/
theorem Grow.freeze {H H' Hf Hf' : Hp} {m : Addr} {o : HO} (hs : Same Hf H) (a : Grow H H' Hf Hf') (h : H m = none) (h' : H' m = some o) : Grow H H' Hf (upd Hf' m o) := by
  refine ⟨a.same, fun b u q => ?_, fun b u q => ?_, fun b u q => ?_⟩
  · rw [upd_ne (ne_of_none (hs b u q) h)]
    exact a.ff b u q
  · by_cases e : b = m
    · subst e
      rw [upd_same] at q
      rw [h', q]
    · rw [upd_ne e] at q
      exact a.fh b u q
  · rw [upd_ne (ne_of_none q h)]
    exact a.new b u q
theorem same_freeze {H Hf : Hp} {m : Addr} {o : HO} (h : Same Hf H) (h' : H m = some o) : Same (upd Hf m o) H := fun b u q => by
  by_cases e : b = m
  · subst e
    rw [upd_same] at q
    rw [h', q]
  · rw [upd_ne e] at q
    exact h b u q
/-- the answer of a def that makes a value -/
def GotV (C : Addr) (Q : VK) (H Hf : Hp) (v : U) : Prop := ∀ (r : V) (H' Hf' : Hp), Grow H H' Hf Hf' → Rep C Hf' r v → Q r H'
theorem GotV.back {C : Addr} {Q : VK} {H H1 Hf Hf1 : Hp} {v : U} (a : Grow H H1 Hf Hf1) (g : GotV C Q H Hf v) : GotV C Q H1 Hf1 v := fun r H' Hf' b h => g r H' Hf' (a.trans b) h
/-- the answer: a new list -/
def GotL (Q : VK) (H : Hp) (xs : List V) : Prop := ∀ (p : Addr) (H' : Hp), H p = none → Same H H' → H' p = some (.lst xs) → Q (.ref p) H'
theorem GotL.back {Q : VK} {H H1 : Hp} {xs : List V} (e : Same H H1) (g : GotL Q H xs) : GotL Q H1 xs := fun p H' hp e' h => g p H' (e.free hp) (e.trans e') h
/-- the answer: a new list of what stands for l -/
def GotM (C : Addr) (Q : VK) (H Hf : Hp) (l : List U) : Prop := ∀ (p : Addr) (us : List V) (H' : Hp), H p = none → Same H H' → H' p = some (.lst us) → Reps C Hf us l → Q (.ref p) H'
theorem GotM.back {C : Addr} {Q : VK} {H H1 Hf : Hp} {l : List U} (e : Same H H1) (g : GotM C Q H Hf l) : GotM C Q H1 Hf l := fun p us H' hp e' h r => g p us H' (e.free hp) (e.trans e') h r
/-- the answer: a value or a refusal -/
def OutV (C CR : Addr) (Q : VK) (E : XK) (H : Hp) : Except Int U → Prop
  | .ok w => ∀ (r : V) (H' : Hp), Same H H' → Rep C H' r w → Q r H'
  | .error n => Fails CR E H n
theorem OutV.back {C CR : Addr} {Q : VK} {E : XK} {H H1 : Hp} {r : Except Int U} (e : Same H H1) (g : OutV C CR Q E H r) : OutV C CR Q E H1 r := by
  cases r with
  | ok w => exact fun r H' a h => g r H' (e.trans a) h
  | error n => exact Fails.back e g
/-- a list of the heap that stands for l -/
def RowR (C : Addr) (H : Hp) (x : V) (l : List U) : Prop := ∃ (p : Addr) (us : List V), x = .ref p ∧ H p = some (.lst us) ∧ Reps C H us l
theorem RowR.mono {C : Addr} {H H' : Hp} {x : V} {l : List U} (e : Same H H') (h : RowR C H x l) : RowR C H' x l := by
  obtain ⟨p, us, a, b, c⟩ := h
  exact ⟨p, us, a, e _ _ b, c.mono e⟩
def Rows (C : Addr) (H : Hp) (xs : List V) (ls : List (List U)) : Prop := Paired (RowR C H) xs ls
theorem Rows.mono {C : Addr} {H H' : Hp} {xs : List V} {ls : List (List U)} (e : Same H H') (h : Rows C H xs ls) : Rows C H' xs ls := by
  unfold Rows at *
  induction h with
  | nil => exact .nil
  | cons a b ih => exact .cons (a.mono e) ih
theorem Rows.snoc {C : Addr} {H : Hp} {xs : List V} {ls : List (List U)} {x : V} {l : List U} (h : Rows C H xs ls) (a : RowR C H x l) : Rows C H (xs ++ [x]) (ls ++ [l]) := Paired.snoc h a
/-- a list of the heap that holds whole numbers -/
def RowI (H : Hp) (x : V) (d : List Int) : Prop := ∃ p : Addr, x = .ref p ∧ H p = some (.lst (d.map V.int))
theorem RowI.mono {H H' : Hp} {x : V} {d : List Int} (e : Same H H') (h : RowI H x d) : RowI H' x d := by
  obtain ⟨p, a, b⟩ := h
  exact ⟨p, a, e _ _ b⟩
def RowsI (H : Hp) (xs : List V) (ds : List (List Int)) : Prop := Paired (RowI H) xs ds
theorem RowsI.mono {H H' : Hp} {xs : List V} {ds : List (List Int)} (e : Same H H') (h : RowsI H xs ds) : RowsI H' xs ds := by
  unfold RowsI at *
  induction h with
  | nil => exact .nil
  | cons a b ih => exact .cons (a.mono e) ih
end N
namespace N
open PySem L2
def spIsNum (C : Addr) : Sp := fun vs H Q _ => ∃ (u : V) (v : U), vs = [u] ∧ Rep C H u v ∧ Q (.bl (Vaarrm.isNum v)) H
section
variable {P : Program} {w : World} {K : PySem.W.Frag} {mg : Str → Option Value} {base : Heap} {CArr : Addr}
theorem sc_is_number : FnScope ["u"] ["u"] (defScope sIsNumber) := ⟨rfl, rfl, rfl, by decide +kernel, rfl, by decide +kernel, by decide +kernel⟩
theorem ok_is_number (T : Top1 K mg "is_number" sIsNumber ["u"]) (b_int : mg "int" = none) (b_isinstance : mg "isinstance" = none) (F_Arr : ClF K CArr ["extents", "members"]) (A_Arr : ArrIs K CArr) : Def P w K mg base CX0 "is_number" 1 ["u"] (spIsNum CArr) := by
  refine T.ok sc_is_number (fun vs H Q E h => ?_) (fun f cdv A outer s H vs Q E hr h => ?_)
  · obtain ⟨u, v, rfl, _⟩ := h
    rfl
  obtain ⟨u, v, rfl, hu, q⟩ := h
  obtain ⟨t, h1, h2⟩ := hu.isInt F_Arr.cl A_Arr
  exact ⟨_, (pss_one (ps_ret (pe_callB call_isi (by rfl) b_isinstance (by decide +kernel) (pa_cons (pv 0) (pa_cons (pe_bltn (v := .ty "int") (by rfl) b_int (by decide +kernel) rfl) pa_nil))))), _, rfl, _, _, _, _, _, rfl, .ty "int", h1, h2, q⟩
end
end N
namespace N
theorem prod_snoc (s : List Nat) (n : Nat) : Vaarrm.product (s ++ [n]) = Vaarrm.product s * n := by
  unfold Vaarrm.product
  rw [List.foldl_append]
  rfl
end N
namespace N
open PySem L2
/-- within_bounds(n) -/
def inG (n : Int) : Bool := decide (-1000000000000000000 ≤ n ∧ n ≤ 1000000000000000000)
def spWithin : Sp := fun vs H Q _ => ∃ n : Int, vs = [.int n] ∧ Q (.bl (inG n)) H
section
variable {P : Program} {w : World} {K : PySem.W.Frag} {mg : Str → Option Value} {base : Heap}
theorem sc_within_bounds : FnScope ["n"] ["n"] (defScope sWithinBounds) := ⟨rfl, rfl, rfl, by decide +kernel, rfl, by decide +kernel, by decide +kernel⟩
theorem ok_within_bounds (T : Top1 K mg "within_bounds" sWithinBounds ["n"]) (c_GREATEST : CI mg "GREATEST" 1000000000000000000) : Def P w K mg base CX0 "within_bounds" 1 ["n"] (spWithin) := by
  refine T.ok sc_within_bounds (fun vs H Q E h => ?_) (fun f cdv A outer s H vs Q E hr h => ?_)
  · obtain ⟨n, rfl, _⟩ := h
    rfl
  obtain ⟨n, rfl, q⟩ := h
  refine ⟨_, (pss_one (ps_ret (pe_chain op_le op_le (pe_un un_neg (pe_ci c_GREATEST)) (pv 0) (pe_ci c_GREATEST)))), ?_⟩
  unfold inG at q
  refine ⟨_, rfl, _, rfl, _, _, rfl, rfl, _, rfl, ?_⟩
  by_cases h1 : (-1000000000000000000 : Int) ≤ n
  · refine itT h1 ⟨_, _, rfl, rfl, ?_⟩
    by_cases h2 : n ≤ 1000000000000000000
    · rw [decide_eq_true ⟨h1, h2⟩] at q
      have q' : Q (.bl (decide (n ≤ 1000000000000000000))) H := by rw [decide_eq_true h2]; exact q
      exact q'
    · rw [decide_eq_false (fun z => h2 z.2)] at q
      have q' : Q (.bl (decide (n ≤ 1000000000000000000))) H := by rw [decide_eq_false h2]; exact q
      exact q'
  · rw [decide_eq_false (fun z => h1 z.1)] at q
    exact itF h1 q
end
end N
namespace N
/-! ### Plain Lean: depth, size, leaves of a value, whole -/
mutual
def tdepth : U → Nat
  | .num _ => 0
  | .arr _ l => 1 + tdepthL l
def tdepthL : List U → Nat
  | [] => 0
  | v :: l => max (tdepth v) (tdepthL l)
end
mutual
def tsize : U → Nat
  | .num _ => 1
  | .arr _ l => 1 + tsizeL l
def tsizeL : List U → Nat
  | [] => 0
  | v :: l => tsize v + tsizeL l
end
mutual
def tleaves : U → List Int
  | .num n => [n]
  | .arr _ l => tleavesL l
def tleavesL : List U → List Int
  | [] => []
  | v :: l => tleaves v ++ tleavesL l
end
mutual
def tshapes : U → Bool
  | .num _ => true
  | .arr s l => Vaarrm.shapeOk s && tshapesL l
def tshapesL : List U → Bool
  | [] => true
  | v :: l => tshapes v && tshapesL l
end
mutual
/-- the walk: every number and array with its level, u first -/
def pre (lv : Nat) : U → List (Nat × U)
  | .num n => [(lv, .num n)]
  | .arr s l => (lv, .arr s l) :: preL (lv + 1) l
def preL (lv : Nat) : List U → List (Nat × U)
  | [] => []
  | v :: l => pre lv v ++ preL lv l
end
theorem tsizeL_append : ∀ l m : List U, tsizeL (l ++ m) = tsizeL l + tsizeL m
  | [], m => by show tsizeL m = 0 + tsizeL m; omega
  | v :: l, m => by
    show tsize v + tsizeL (l ++ m) = tsize v + tsizeL l + tsizeL m
    rw [tsizeL_append l m]
    omega
theorem tsize_pos (v : U) : 0 < tsize v := by
  cases v with
  | num n => exact Nat.one_pos
  | arr s l =>
    show 0 < 1 + tsizeL l
    omega
theorem len_tsizeL : ∀ l : List U, l.length ≤ tsizeL l
  | [] => Nat.le_refl _
  | v :: l => by
    have h1 := len_tsizeL l
    have h2 := tsize_pos v
    show l.length + 1 ≤ tsize v + tsizeL l
    omega
mutual
theorem pre_len (lv : Nat) : ∀ v : U, (pre lv v).length = tsize v
  | .num n => rfl
  | .arr s l => by
    show (preL (lv + 1) l).length + 1 = 1 + tsizeL l
    rw [preL_len (lv + 1) l]
    omega
theorem preL_len (lv : Nat) : ∀ l : List U, (preL lv l).length = tsizeL l
  | [] => rfl
  | v :: l => by
    show (pre lv v ++ preL lv l).length = tsize v + tsizeL l
    rw [List.length_append, pre_len lv v, preL_len lv l]
end
/-- the greatest depth met -/
def deepStep (d : Nat) (p : Nat × U) : Nat := if Vaarrm.isNum p.2 = true then d else max d (p.1 + 1)
def deepOf (ms : List (Nat × U)) : Nat := ms.foldl deepStep 0
mutual
theorem deep_pre : ∀ (v : U) (lv d : Nat), (pre lv v).foldl deepStep d = if Vaarrm.isNum v = true then d else max d (lv + tdepth v)
  | .num n, lv, d => rfl
  | .arr s l, lv, d => by
    show (preL (lv + 1) l).foldl deepStep (deepStep d (lv, .arr s l)) = max d (lv + (1 + tdepthL l))
    rw [deep_preL l (lv + 1)]
    · show max (max d (lv + 1)) (lv + 1 + tdepthL l) = _
      omega
    · show lv + 1 ≤ max d (lv + 1)
      omega
theorem deep_preL : ∀ (l : List U) (lv d : Nat), lv ≤ d → (preL lv l).foldl deepStep d = max d (lv + tdepthL l)
  | [], lv, d, h => by
    show d = max d (lv + 0)
    omega
  | v :: l, lv, d, h => by
    show (pre lv v ++ preL lv l).foldl deepStep d = max d (lv + max (tdepth v) (tdepthL l))
    rw [List.foldl_append, deep_pre v lv d]
    cases v with
    | num n =>
      show (preL lv l).foldl deepStep d = _
      rw [deep_preL l lv d h]
      show max d (lv + tdepthL l) = max d (lv + max 0 (tdepthL l))
      omega
    | arr s l' =>
      show (preL lv l).foldl deepStep (max d (lv + tdepth (.arr s l'))) = _
      rw [deep_preL l lv _ (by omega)]
      omega
end
theorem deepOf_pre (v : U) : deepOf (pre 0 v) = tdepth v := by
  unfold deepOf
  rw [deep_pre]
  cases v with
  | num n => rfl
  | arr s l =>
    show max 0 (0 + tdepth (.arr s l)) = _
    omega
mutual
theorem leaves_pre (lv : Nat) : ∀ v : U, (pre lv v).flatMap (fun p => match p.2 with | .num n => [n] | .arr _ _ => []) = tleaves v
  | .num n => rfl
  | .arr s l => by
    show [] ++ (preL (lv + 1) l).flatMap _ = tleavesL l
    rw [List.nil_append, leaves_preL (lv + 1) l]
theorem leaves_preL (lv : Nat) : ∀ l : List U, (preL lv l).flatMap (fun p => match p.2 with | .num n => [n] | .arr _ _ => []) = tleavesL l
  | [] => rfl
  | v :: l => by
    show (pre lv v ++ preL lv l).flatMap _ = tleaves v ++ tleavesL l
    rw [List.flatMap_append, leaves_pre lv v, leaves_preL lv l]
end
/-- whether an array met has a shape that is one -/
def goodMet (p : Nat × U) : Bool := match p.2 with
  | .num _ => true
  | .arr s _ => Vaarrm.shapeOk s
mutual
theorem shapes_pre (lv : Nat) : ∀ v : U, (pre lv v).all goodMet = tshapes v
  | .num n => rfl
  | .arr s l => by
    show (Vaarrm.shapeOk s && (preL (lv + 1) l).all goodMet) = (Vaarrm.shapeOk s && tshapesL l)
    rw [shapes_preL (lv + 1) l]
theorem shapes_preL (lv : Nat) : ∀ l : List U, (preL lv l).all goodMet = tshapesL l
  | [] => rfl
  | v :: l => by
    show (pre lv v ++ preL lv l).all goodMet = (tshapes v && tshapesL l)
    rw [List.all_append, shapes_pre lv v, shapes_preL lv l]
end
/-! the specification's, as far down as is told -/
theorem foldl_max (l : List Nat) : ∀ d : Nat, l.foldl max d = max d (l.foldl max 0) := by
  induction l with
  | nil => intro d; show d = max d 0; omega
  | cons x l ih =>
    intro d
    rw [List.foldl_cons, List.foldl_cons, ih, ih (max 0 x)]
    omega
theorem foldl_add (l : List Nat) : ∀ d : Nat, l.foldl (fun n x => n + x) d = d + l.foldl (fun n x => n + x) 0 := by
  induction l with
  | nil => intro d; rfl
  | cons x l ih =>
    intro d
    rw [List.foldl_cons, List.foldl_cons, ih, ih (0 + x)]
    omega
mutual
theorem depth_is : ∀ (v : U) (k : Nat), Vaarrm.depth k v = min k (tdepth v)
  | v, 0 => by show 0 = min 0 _; omega
  | .num n, k + 1 => by show 0 = min (k + 1) 0; omega
  | .arr s l, k + 1 => by
    show 1 + (l.map (Vaarrm.depth k)).foldl max 0 = min (k + 1) (1 + tdepthL l)
    rw [depth_isL l k]
    omega
theorem depth_isL : ∀ (l : List U) (k : Nat), (l.map (Vaarrm.depth k)).foldl max 0 = min k (tdepthL l)
  | [], k => by show 0 = min k 0; omega
  | v :: l, k => by
    rw [List.map_cons, List.foldl_cons, foldl_max, depth_isL l k, depth_is v k]
    show max (max 0 (min k (tdepth v))) (min k (tdepthL l)) = min k (max (tdepth v) (tdepthL l))
    omega
end
mutual
theorem size_is : ∀ (v : U) (k : Nat), tdepth v ≤ k → Vaarrm.size k v = tsize v
  | .num n, 0, _ => rfl
  | .num n, k + 1, _ => rfl
  | .arr s l, 0, h => absurd (show 1 + tdepthL l ≤ 0 from h) (by omega)
  | .arr s l, k + 1, h => by
    have h' : 1 + tdepthL l ≤ k + 1 := h
    show (l.map (Vaarrm.size k)).foldl (fun n x => n + x) 1 = 1 + tsizeL l
    rw [foldl_add, size_isL l k (by omega)]
theorem size_isL : ∀ (l : List U) (k : Nat), tdepthL l ≤ k → (l.map (Vaarrm.size k)).foldl (fun n x => n + x) 0 = tsizeL l
  | [], k, _ => rfl
  | v :: l, k, h => by
    have h' : max (tdepth v) (tdepthL l) ≤ k := h
    rw [List.map_cons, List.foldl_cons, foldl_add, size_isL l k (by omega), size_is v k (by omega)]
    show 0 + tsize v + tsizeL l = tsize v + tsizeL l
    omega
end
mutual
theorem leaves_is : ∀ (v : U) (k : Nat), tdepth v < k → Vaarrm.leaves k v = tleaves v
  | v, 0, h => absurd h (by omega)
  | .num n, k + 1, _ => rfl
  | .arr s l, k + 1, h => by
    have h' : 1 + tdepthL l < k + 1 := h
    show l.flatMap (Vaarrm.leaves k) = tleavesL l
    exact leaves_isL l k (by omega)
theorem leaves_isL : ∀ (l : List U) (k : Nat), tdepthL l < k → l.flatMap (Vaarrm.leaves k) = tleavesL l
  | [], k, _ => rfl
  | v :: l, k, h => by
    have h' : max (tdepth v) (tdepthL l) < k := h
    rw [List.flatMap_cons, leaves_isL l k (by omega), leaves_is v k (by omega)]
    rfl
end
mutual
theorem shapes_is : ∀ (v : U) (k : Nat), tdepth v ≤ k → Vaarrm.goodShapes k v = tshapes v
  | .num n, 0, _ => rfl
  | .num n, k + 1, _ => rfl
  | .arr s l, 0, h => absurd (show 1 + tdepthL l ≤ 0 from h) (by omega)
  | .arr s l, k + 1, h => by
    have h' : 1 + tdepthL l ≤ k + 1 := h
    show (Vaarrm.shapeOk s && l.all (Vaarrm.goodShapes k)) = (Vaarrm.shapeOk s && tshapesL l)
    rw [shapes_isL l k (by omega)]
theorem shapes_isL : ∀ (l : List U) (k : Nat), tdepthL l ≤ k → l.all (Vaarrm.goodShapes k) = tshapesL l
  | [], k, _ => rfl
  | v :: l, k, h => by
    have h' : max (tdepth v) (tdepthL l) ≤ k := h
    rw [List.all_cons, shapes_isL l k (by omega), shapes_is v k (by omega)]
    rfl
end
/-- within the limits -/
def tlim (v : U) : Bool := decide (tsize v ≤ 512 ∧ tdepth v ≤ 8)
theorem within_is (v : U) (k : Nat) (h : tdepth v ≤ k ∨ 9 ≤ k) : Vaarrm.within k v = tlim v := by
  unfold Vaarrm.within tlim Vaarrm.DEEP
  rw [depth_is]
  by_cases hk : tdepth v ≤ k
  · rw [size_is v k hk, Nat.min_eq_right hk]
    by_cases a : tdepth v ≤ 8
    · rw [decide_eq_true a, Bool.true_and]
      exact decide_eq_decide.mpr ⟨fun z => ⟨z, a⟩, fun z => z.1⟩
    · rw [decide_eq_false a, Bool.false_and]
      exact (decide_eq_false fun z => a z.2).symm
  · have h9 : 9 ≤ k := h.resolve_left hk
    rw [decide_eq_false (show ¬ min k (tdepth v) ≤ 8 by omega), Bool.false_and]
    exact (decide_eq_false fun z => by omega).symm
theorem tshapesL_get : ∀ {l : List U} {i : Nat} {v : U}, tshapesL l = true → l[i]? = some v → tshapes v = true
  | [], _, _, _, e => by simp at e
  | a :: l, 0, v, h, e => by
    have h' : (tshapes a && tshapesL l) = true := h
    rw [Bool.and_eq_true] at h'
    rw [← Option.some.inj e]
    exact h'.1
  | a :: l, i + 1, v, h, e => by
    have h' : (tshapes a && tshapesL l) = true := h
    rw [Bool.and_eq_true] at h'
    exact tshapesL_get (i := i) h'.2 e
theorem tdepthL_get : ∀ {l : List U} {i : Nat} {v : U}, l[i]? = some v → tdepth v ≤ tdepthL l
  | [], _, _, e => by simp at e
  | a :: l, 0, v, e => by
    rw [← Option.some.inj e]
    show tdepth a ≤ max (tdepth a) (tdepthL l)
    omega
  | a :: l, i + 1, v, e => by
    have := tdepthL_get (i := i) (l := l) e
    show tdepth v ≤ max (tdepth a) (tdepthL l)
    omega
theorem tsizeL_get : ∀ {l : List U} {i : Nat} {v : U}, l[i]? = some v → tsize v ≤ tsizeL l
  | [], _, _, e => by simp at e
  | a :: l, 0, v, e => by
    rw [← Option.some.inj e]
    show tsize a ≤ tsize a + tsizeL l
    omega
  | a :: l, i + 1, v, e => by
    have := tsizeL_get (i := i) (l := l) e
    show tsize v ≤ tsize a + tsizeL l
    omega
end N
namespace N
open PySem L2
/-- a tuple of a level and a value -/
def MetW (C : Addr) (H H1 : Hp) (u : V) (p : Nat × U) : Prop := ∃ (q : Addr) (x : V), u = .ref q ∧ H1 q = some (.tup [.int (p.1 : Int), x]) ∧ Rep C H x p.2
theorem MetW.mono {C : Addr} {H H1 H2 : Hp} {u : V} {p : Nat × U} (e : Same H1 H2) (h : MetW C H H1 u p) : MetW C H H2 u p := by
  obtain ⟨q, x, a, b, c⟩ := h
  exact ⟨q, x, a, e _ _ b, c⟩
theorem MetW.mut {C : Addr} {H H1 : Hp} {u : V} {p : Nat × U} {l : Addr} {xs ys : List V} (hl : H1 l = some (.lst xs)) (h : MetW C H H1 u p) : MetW C H (upd H1 l (.lst ys)) u p := by
  obtain ⟨q, x, a, b, c⟩ := h
  exact ⟨q, x, a, by rw [upd_ne (ne_of b hl (by intro z; cases z))]; exact b, c⟩
def MetV (C : Addr) (H : Hp) (u : V) (p : Nat × U) : Prop := ∃ (q : Addr) (x : V), u = .ref q ∧ H q = some (.tup [.int (p.1 : Int), x]) ∧ Rep C H x p.2
theorem MetV.mono {C : Addr} {H H' : Hp} {u : V} {p : Nat × U} (e : Same H H') (h : MetV C H u p) : MetV C H' u p := by
  obtain ⟨q, x, a, b, c⟩ := h
  exact ⟨q, x, a, e _ _ b, c.mono e⟩
theorem Paired.map_R {α β : Type} {R S : α → β → Prop} (f : ∀ a b, R a b → S a b) : ∀ {xs : List α} {ys : List β}, Paired R xs ys → Paired S xs ys
  | _, _, .nil => .nil
  | _, _, .cons a b => .cons (f _ _ a) (Paired.map_R f b)
theorem Paired.get2 {α β : Type} {R : α → β → Prop} : ∀ {xs : List α} {ys : List β} {i : Nat} {x : α}, Paired R xs ys → xs[i]? = some x → ∃ y, ys[i]? = some y ∧ R x y
  | _, _, _, _, .nil, e => by simp at e
  | _, _, 0, _, .cons h _, e => ⟨_, rfl, by rw [← Option.some.inj e]; exact h⟩
  | _, _, i + 1, _, .cons _ t, e => by
    obtain ⟨v, a, b⟩ := Paired.get2 (i := i) t e
    exact ⟨v, a, b⟩
theorem Paired.last {α β : Type} {R : α → β → Prop} : ∀ {xs : List α} {ys : List β}, Paired R xs ys → ys ≠ [] → ∃ (x : α) (xs' : List α) (y : β) (ys' : List β), xs = xs' ++ [x] ∧ ys = ys' ++ [y] ∧ R x y ∧ Paired R xs' ys'
  | _, _, .nil, h => absurd rfl h
  | _, _, .cons a t, _ => by
    cases t with
    | nil => exact ⟨_, [], _, [], rfl, rfl, a, .nil⟩
    | cons b t =>
      obtain ⟨x, xs', y, ys', e1, e2, r, p⟩ := Paired.last (.cons b t) (by simp)
      exact ⟨x, _ :: xs', y, _ :: ys', by rw [e1]; rfl, by rw [e2]; rfl, r, .cons a p⟩
def spWalk (C : Addr) : Sp := fun vs H Q _ => ∃ (u : V) (v : U), vs = [u] ∧ Rep C H u v ∧ tsize v ≤ 1000000 ∧
  ∀ (p : Addr) (us : List V) (H' : Hp), Same H H' → H' p = some (.lst us) → Paired (MetV C H') us (pre 0 v) → Q (.ref p) H'
/-- the stack's walk -/
def preS (ws : List (Nat × U)) : List (Nat × U) := ws.reverse.flatMap fun p => pre p.1 p.2
def sizeS (ws : List (Nat × U)) : Nat := (ws.map fun p => tsize p.2).sum
theorem preS_pop (ws : List (Nat × U)) (p : Nat × U) : preS (ws ++ [p]) = pre p.1 p.2 ++ preS ws := by
  unfold preS
  rw [List.reverse_append]
  rfl
theorem preL_flat (lv : Nat) : ∀ l : List U, preL lv l = (l.map fun v => (lv, v)).flatMap fun p => pre p.1 p.2
  | [] => rfl
  | v :: l => by
    show pre lv v ++ preL lv l = _
    rw [preL_flat lv l, List.map_cons, List.flatMap_cons]
theorem preS_push (ws : List (Nat × U)) (lv : Nat) (l : List U) : preS (ws ++ (l.map fun v => (lv, v)).reverse) = preL lv l ++ preS ws := by
  unfold preS
  rw [List.reverse_append, List.reverse_reverse, List.flatMap_append, preL_flat]
theorem sizeS_append (a b : List (Nat × U)) : sizeS (a ++ b) = sizeS a + sizeS b := by
  unfold sizeS
  rw [List.map_append, List.sum_append]
theorem sizeS_push (lv : Nat) (l : List U) : sizeS (l.map fun v => (lv, v)).reverse = tsizeL l := by
  unfold sizeS
  rw [List.map_reverse, List.sum_reverse, List.map_map]
  induction l with
  | nil => rfl
  | cons v l ih =>
    rw [List.map_cons, List.sum_cons, ih]
    rfl
theorem len_sizeS : ∀ ws : List (Nat × U), ws.length ≤ sizeS ws
  | [] => Nat.le_refl _
  | p :: ws => by
    have h1 := len_sizeS ws
    have h2 := tsize_pos p.2
    unfold sizeS at h1 ⊢
    rw [List.map_cons, List.sum_cons, List.length_cons]
    omega
section
variable {P : Program} {w : World} {K : PySem.W.Frag} {mg : Str → Option Value} {base : Heap} {CArr : Addr}
theorem sc_walk : FnScope ["u", "met", "waiting", "level", "value", "member"] ["u"] (defScope sWalk) := ⟨rfl, rfl, rfl, by decide +kernel, rfl, by decide +kernel, by decide +kernel⟩
theorem ok_walk (T : Top1 K mg "walk" sWalk ["u"]) (b_len : mg "len" = none) (b_reversed : mg "reversed" = none) (F_Arr : ClF K CArr ["extents", "members"]) (D_is_number : Def P w K mg base CX0 "is_number" 1 ["u"] (spIsNum CArr)) : Def P w K mg base CX0 "walk" 2 ["u"] (spWalk CArr) := by
  refine T.ok sc_walk (fun vs H Q E h => ?_) (fun f cdv A outer s H vs Q E hr h => ?_)
  · obtain ⟨u, v, rfl, _⟩ := h
    rfl
  obtain ⟨u, v, rfl, hu, hz, q⟩ := h
  refine ⟨_, (pss_cons (ps_set (i := 1) sc_walk.nd rfl (Or.inl rfl) (pe_lst pa_nil)) (pss_cons (ps_set (i := 2) sc_walk.nd rfl (Or.inl rfl) (pe_lst (pa_cons (pe_tup (pa_cons pe_int (pa_cons (pv 0) pa_nil))) pa_nil))) (pss_cons (ps_while PassesOwn.never (pt_cmpR op_gt (pe_callB call_len_seq (by rfl) b_len (by decide +kernel) (pa_cons (pv 2) pa_nil)) pe_int (nomark _)) (pss_cons (ps_asg (pe_bm0 PySem.F.plainAttrs_list PySem.F.slot_list_pop PySem.F.type_list_pop mt_pop (pv 2)) (pg_tup rfl (pgs_cons (pg_name (i := 3) sc_walk.nd rfl (Or.inl rfl)) (pgs_cons (pg_name (i := 4) sc_walk.nd rfl (Or.inl rfl)) pgs_nil)))) (pss_cons (ps_expr (pe_bm PySem.F.plainAttrs_list PySem.F.slot_list_append PySem.F.type_list_append mt_append (pv 1) (pa_cons (pe_tup (pa_cons (pv 3) (pa_cons (pv 4) pa_nil))) pa_nil))) (pss_one (ps_if (pt_not (pt_val (pe_fn D_is_number (hr.mono (by decide)) pass0 (pa_cons (pv 4) pa_nil)))) (pss_one (ps_for PassesOwn.never rfl (pi_reversed rfl b_reversed (pa_cons (pe_fld (pv 4) rfl) pa_nil)) (pg_name (i := 5) sc_walk.nd rfl (Or.inl rfl)) (pss_one (ps_expr (pe_bm PySem.F.plainAttrs_list PySem.F.slot_list_append PySem.F.type_list_append mt_append (pv 2) (pa_cons (pe_tup (pa_cons (pe_op op_add (pv 3) pe_int) (pa_cons (pv 5) pa_nil))) pa_nil)))))) pss_nil))))) (pss_one (ps_ret (pv 1)))))), ?_⟩
  refine ⟨Nat.zero_le _, fun l hl => ?_⟩
  have s0 : Same H (upd H l (.lst [])) := same_new hl _
  refine ⟨_, rfl, by show 2 ≤ sizeLine; decide, fun p0 hp0 => ?_⟩
  have s1 : Same H (upd (upd H l (.lst [])) p0 (.tup [.int 0, u])) := s0.trans (same_new hp0 _)
  refine ⟨by show 1 ≤ sizeLine; decide, fun wl hwl => ?_⟩
  have s2 := s1.trans (same_new hwl (.lst [.ref p0]))
  have nlp : l ≠ p0 := fun z => by rw [← z, upd_same] at hp0; cases hp0
  have nlw : l ≠ wl := fun z => by rw [← z, upd_ne nlp, upd_same] at hwl; cases hwl
  have npw : p0 ≠ wl := fun z => by rw [← z, upd_same] at hwl; cases hwl
  have fl : H l = none := hl
  have fw : H wl = none := s1.free hwl
  have gEx := F_Arr.no "members" (by simp)
  refine ⟨fun m σ H1 => ∃ (us wvs : List V) (ms ws : List (Nat × U)) (a b c : Option V), σ = [some u, some (.ref l), some (.ref wl), a, b, c] ∧ Same H H1 ∧ H1 l = some (.lst us) ∧ H1 wl = some (.lst wvs) ∧ Paired (MetW CArr H H1) us ms ∧ Paired (MetW CArr H H1) wvs ws ∧
      ms ++ preS ws = pre 0 v ∧ m = sizeS ws, ⟨tsize v, ?_⟩, ?_⟩
  · refine ⟨[], [.ref p0], [], [(0, v)], none, none, none, rfl, s2, ?_, upd_same, .nil, .cons ⟨p0, u, rfl, ?_, hu⟩ .nil, ?_, ?_⟩
    · rw [upd_ne nlw, upd_ne nlp, upd_same]
    · rw [upd_ne npw, upd_same]
      rfl
    · show pre 0 v ++ [] = _
      rw [List.append_nil]
    · show tsize v = tsize v + 0
      omega
  rintro m σ H1 ⟨us, wvs, ms, ws, a, b, c, rfl, e1, hl1, hw1, pm, pw, hpre, rfl⟩
  refine ⟨_, rfl, wl, wvs, rfl, .inl (SqL.of hw1), _, _, rfl, rfl, _, rfl, ?_⟩
  have hlen := congrArg List.length hpre
  rw [List.length_append, pre_len] at hlen
  have hlw : wvs.length = ws.length := Paired.length pw
  have hlu : us.length = ms.length := Paired.length pm
  by_cases hne : ws = []
  · subst hne
    refine itF (by rw [hlw]; decide) ⟨_, rfl, q l us H1 e1 hl1 ?_⟩
    have e0 : ms = pre 0 v := by rw [← hpre]; exact (List.append_nil ms).symm
    rw [← e0]
    exact Paired.map_R (fun u' p' ⟨q', x', h1, h2, h3⟩ => ⟨q', x', h1, h2, h3.mono e1⟩) pm
  have hpos : 0 < ws.length := List.length_pos_iff.mpr hne
  obtain ⟨tp, wvs', pr, ws', rfl, rfl, ⟨q0, x, rfl, hq0, hx⟩, pw'⟩ := Paired.last pw hne
  obtain ⟨lv, vv⟩ := pr
  rw [preS_pop] at hpre
  have hS : sizeS (ws' ++ [(lv, vv)]) = sizeS ws' + tsize vv := by
    rw [sizeS_append]
    show _ + (tsize vv + 0) = _
    omega
  have hSl : (preS (ws' ++ [(lv, vv)])).length = sizeS (ws' ++ [(lv, vv)]) := by
    have : ∀ zs : List (Nat × U), (preS zs).length = sizeS zs := fun zs => by
      unfold preS sizeS
      rw [List.length_flatMap, List.map_reverse, List.sum_reverse]
      congr 1
      exact List.map_congr_left fun p _ => pre_len p.1 p.2
    exact this _
  rw [hSl, hS] at hlen
  have hlw' := len_sizeS ws'
  refine itT (by rw [hlw]; omega) ⟨fun σ' H' => ∃ m', m' < sizeS (ws' ++ [(lv, vv)]) ∧ _, fun σ' H' h => h, ?_⟩
  -- level, value = waiting.pop()
  refine ⟨_, rfl, .inl ⟨rfl, _, SqL.of hw1⟩, wl, _, _, rfl, rfl, hw1, by rw [List.length_append, List.length_singleton, Nat.add_sub_cancel, List.getElem?_append_right (Nat.le_refl _), Nat.sub_self]; rfl, ?_⟩
  rw [List.dropLast_concat]
  have nq : q0 ≠ wl := ne_of hq0 hw1 (by intro z; cases z)
  have hq0' : (upd H1 wl (.lst wvs')) q0 = some (.tup [.int (lv : Int), x]) := by rw [upd_ne nq]; exact hq0
  have e2 : Same H (upd H1 wl (.lst wvs')) := Same.mut e1 fw
  have hl2 : (upd H1 wl (.lst wvs')) l = some (.lst us) := by rw [upd_ne nlw]; exact hl1
  have pm2 : Paired (MetW CArr H (upd H1 wl (.lst wvs'))) us ms := Paired.map_R (fun _ _ h => h.mut hw1) pm
  have pw2 : Paired (MetW CArr H (upd H1 wl (.lst wvs'))) wvs' ws' := Paired.map_R (fun _ _ h => h.mut hw1) pw'
  have hw2 : (upd H1 wl (.lst wvs')) wl = some (.lst wvs') := upd_same
  generalize upd H1 wl (.lst wvs') = H2 at *
  refine ⟨q0, _, rfl, SqT.of hq0', rfl, _, _, rfl, _, _, rfl, rfl, ?_⟩
  -- met.append((level, value))
  refine ⟨_, rfl, .inl ⟨rfl, _, SqL.of hl2⟩, _, rfl, _, rfl, by show 2 ≤ sizeLine; decide, fun p hp => ?_⟩
  have e3 := same_new hp (.tup [.int (lv : Int), x])
  have hl3 := e3 _ _ hl2
  refine ⟨l, us, _, rfl, rfl, hl3, Nat.lt_of_le_of_lt (show us.length ≤ 1000000 by omega) (by decide), ?_⟩
  have e4 : Same H (upd (upd H2 p (.tup [.int (lv : Int), x])) l (.lst (us ++ [.ref p]))) := Same.mut (e2.trans e3) fl
  have hw4 : (upd (upd H2 p (.tup [.int (lv : Int), x])) l (.lst (us ++ [.ref p]))) wl = some (.lst wvs') := by rw [upd_ne (Ne.symm nlw)]; exact e3 _ _ hw2
  have hl4 : (upd (upd H2 p (.tup [.int (lv : Int), x])) l (.lst (us ++ [.ref p]))) l = some (.lst (us ++ [.ref p])) := upd_same
  have pm4 : Paired (MetW CArr H (upd (upd H2 p (.tup [.int (lv : Int), x])) l (.lst (us ++ [.ref p])))) (us ++ [.ref p]) (ms ++ [(lv, vv)]) := by
    refine Paired.snoc (Paired.map_R (fun _ _ h => (h.mono e3).mut hl3) pm2) ?_
    exact MetW.mut hl3 ⟨p, x, rfl, upd_same, hx⟩
  have pw4 : Paired (MetW CArr H (upd (upd H2 p (.tup [.int (lv : Int), x])) l (.lst (us ++ [.ref p])))) wvs' ws' := Paired.map_R (fun _ _ h => (h.mono e3).mut hl3) pw2
  generalize upd (upd H2 p (.tup [.int (lv : Int), x])) l (.lst (us ++ [.ref p])) = H4 at *
  refine ⟨_, rfl, x, vv, rfl, hx.mono e4, _, rfl, ?_⟩
  cases vv with
  | num n =>
    refine iteF ⟨sizeS ws', ?_, us ++ [.ref p], wvs', ms ++ [(lv, .num n)], ws', _, _, _, rfl, e4, hl4, hw4, pm4, pw4, ?_, rfl⟩
    · rw [hS]
      show sizeS ws' < sizeS ws' + 1
      omega
    · rw [List.append_assoc]
      exact hpre
  | arr s lst =>
    obtain ⟨y, dx, ey, my, um, rfl, hy, hey, hmy, hbs, hrs⟩ := hx.of_arr
    have hlm : um.length = lst.length := hrs.length
    have hts : tsize (.arr s lst) = 1 + tsizeL lst := rfl
    rw [hts] at hlen hS
    have hll := len_tsizeL lst
    refine iteT ⟨_, rfl, y, CArr, dx, _, _, rfl, e4 _ _ hy, F_Arr.cl, gEx, arrF_mem _ _, my, um, rfl, SqL.of (e4 _ _ hmy), ?_⟩
    refine RT.for_Itv (K := K) (a := my) (xs := um) (fun i σ H5 => i ≤ lst.length ∧ ∃ (wv2 : List V) (c' : Option V), σ = [some u, some (.ref l), some (.ref wl), some (.int (lv : Int)), some (.ref y), c'] ∧ Same H H5 ∧ H5 l = some (.lst (us ++ [.ref p])) ∧ H5 wl = some (.lst wv2) ∧
      Paired (MetW CArr H H5) (us ++ [.ref p]) (ms ++ [(lv, .arr s lst)]) ∧ Paired (MetW CArr H H5) wv2 (ws' ++ ((lst.map fun v => (lv + 1, v)).reverse.take i))) ⟨Nat.zero_le _, wvs', c, rfl, e4, hl4, hw4, pm4, by rw [List.take_zero, List.append_nil]; exact pw4⟩ (fun i σ H5 h => ?_) ?_ ?_
    · obtain ⟨_, _, _, _, e5, _⟩ := h
      exact SqL.of (e5 _ _ hmy)
    · rintro i z σ H5 hi hz ⟨hile, wv2, c', rfl, e5, hl5, hw5, pm5, pw5⟩
      obtain ⟨vz, hvz, hrz⟩ := hrs.get hz
      have hlw5 : wv2.length = ws'.length + i := by
        rw [Paired.length pw5, List.length_append, List.length_take, List.length_reverse, List.length_map]
        omega
      refine ⟨_, rfl, .inl ⟨rfl, _, SqL.of hw5⟩, _, rfl, _, _, rfl, rfl, _, rfl, by show 2 ≤ sizeLine; decide, fun t ht => ?_⟩
      have e6 := same_new ht (.tup [.int ((lv : Int) + 1), z])
      have hw6 := e6 _ _ hw5
      refine ⟨wl, wv2, _, rfl, rfl, hw6, Nat.lt_of_le_of_lt (show wv2.length ≤ 2000000 by omega) (by decide), ?_⟩
      refine ⟨by omega, wv2 ++ [.ref t], some z, rfl, Same.mut (e5.trans e6) fw, by rw [upd_ne nlw]; exact e6 _ _ hl5, upd_same, Paired.map_R (fun _ _ h => (h.mono e6).mut hw6) pm5, ?_⟩
      have hrev : (lst.map fun v => (lv + 1, v)).reverse[i]? = some (lv + 1, vz) := by
        rw [List.getElem?_reverse (by rw [List.length_map]; omega), List.length_map, List.getElem?_map, ← hlm, hvz]
        rfl
      rw [take_more hrev, ← List.append_assoc]
      exact Paired.snoc (Paired.map_R (fun _ _ h => (h.mono e6).mut hw6) pw5) (MetW.mut hw6 ⟨t, z, rfl, upd_same, hrz⟩)
    · rintro σ H5 ⟨hile, wv2, c', rfl, e5, hl5, hw5, pm5, pw5⟩
      rw [hlm, List.take_of_length_le (by rw [List.length_reverse, List.length_map]; exact Nat.le_refl _)] at pw5
      refine ⟨_, ?_, us ++ [.ref p], wv2, ms ++ [(lv, .arr s lst)], _, _, _, c', rfl, e5, hl5, hw5, pm5, pw5, ?_, rfl⟩
      · rw [hS, sizeS_append, sizeS_push]
        omega
      · rw [List.append_assoc, preS_push]
        exact hpre
end
end N
namespace N
open PySem L2
def spDeepest (K : PySem.W.Frag) (C : Addr) : Sp := fun vs H Q _ => ∃ (p : Addr) (us : List V) (ms : List (Nat × U)), vs = [.ref p] ∧ SqL K H p us ∧ Paired (MetV C H) us ms ∧ Q (.int ((deepOf ms : Nat) : Int)) H
section
variable {P : Program} {w : World} {K : PySem.W.Frag} {mg : Str → Option Value} {base : Heap} {CArr : Addr}
theorem sc_deepest : FnScope ["met", "depth", "level", "value"] ["met"] (defScope sDeepest) := ⟨rfl, rfl, rfl, by decide +kernel, rfl, by decide +kernel, by decide +kernel⟩
theorem ok_deepest (T : Top1 K mg "deepest" sDeepest ["met"]) (b_max : mg "max" = none) (D_is_number : Def P w K mg base CX0 "is_number" 1 ["u"] (spIsNum CArr)) : Def P w K mg base CX0 "deepest" 2 ["met"] (spDeepest K CArr) := by
  refine T.ok sc_deepest (fun vs H Q E h => ?_) (fun f cdv A outer s H vs Q E hr h => ?_)
  · obtain ⟨p, us, ms, rfl, _⟩ := h
    rfl
  obtain ⟨p, us, ms, rfl, hS, hp, q⟩ := h
  have hl := Paired.length hp
  refine ⟨_, (pss_cons (ps_set (i := 1) sc_deepest.nd rfl (Or.inl rfl) pe_int) (pss_cons (ps_for PassesOwn.never rfl (pi_list (pv 0)) (pg_tup rfl (pgs_cons (pg_name (i := 2) sc_deepest.nd rfl (Or.inl rfl)) (pgs_cons (pg_name (i := 3) sc_deepest.nd rfl (Or.inl rfl)) pgs_nil))) (pss_one (ps_if (pt_not (pt_val (pe_fn D_is_number (hr.mono (by decide)) pass0 (pa_cons (pv 3) pa_nil)))) (pss_one (ps_set (i := 1) sc_deepest.nd rfl (Or.inl rfl) (pe_callB (call_max2 rfl) (by rfl) b_max (by decide +kernel) (pa_cons (pv 1) (pa_cons (pe_op op_add (pv 2) pe_int) pa_nil))))) pss_nil))) (pss_one (ps_ret (pv 1))))), ?_⟩
  refine ⟨_, rfl, p, rfl, ⟨_, hS⟩, for_list (K := K) (a := p) (xs := us) (fun i σ H' => H' = H ∧ ∃ a b, σ = [some (.ref p), some (.int ((deepOf (ms.take i) : Nat) : Int)), a, b]) ⟨rfl, none, none, rfl⟩ (fun i σ H' _ h => h.1 ▸ hS) ?_ ?_⟩
  · rintro i y σ H' hi ⟨rfl, a, b, rfl⟩
    obtain ⟨⟨lv, v⟩, hm, q0, x, rfl, hq, hx⟩ := Paired.get2 hp hi
    refine ⟨q0, _, rfl, SqT.of hq, rfl, _, _, rfl, _, _, rfl, rfl, ?_⟩
    refine ⟨_, rfl, x, v, rfl, hx, _, rfl, ?_⟩
    have e : deepOf (ms.take (i + 1)) = deepStep (deepOf (ms.take i)) (lv, v) := by
      unfold deepOf
      rw [take_more hm, List.foldl_append]
      rfl
    cases v with
    | num n =>
      refine iteF ⟨rfl, some (.int (lv : Int)), some x, ?_⟩
      rw [e]
      rfl
    | arr s l =>
      refine iteT ⟨_, rfl, _, rfl, _, _, rfl, rfl, _, _, rfl, rfl, some (.int (lv : Int)), some x, ?_⟩
      rw [e]
      show [some (V.ref p), some (V.int (if (lv : Int) + 1 > ((deepOf (ms.take i) : Nat) : Int) then (lv : Int) + 1 else ((deepOf (ms.take i) : Nat) : Int))), some (V.int (lv : Int)), some x] = [some (V.ref p), some (V.int ((max (deepOf (ms.take i)) (lv + 1) : Nat) : Int)), some (V.int (lv : Int)), some x]
      have e2 : (if (lv : Int) + 1 > ((deepOf (ms.take i) : Nat) : Int) then (lv : Int) + 1 else ((deepOf (ms.take i) : Nat) : Int)) = ((max (deepOf (ms.take i)) (lv + 1) : Nat) : Int) := by
        split <;> omega
      rw [e2]
  · rintro σ H' ⟨rfl, a, b, rfl⟩
    rw [hl, List.take_length]
    exact ⟨_, rfl, q⟩
end
end N
namespace N
open PySem L2
def spLimits (C : Addr) : Sp := fun vs H Q _ => ∃ (u : V) (v : U), vs = [u] ∧ Rep C H u v ∧ tsize v ≤ 1000000 ∧ ∀ H', Same H H' → Q (.bl (tlim v)) H'
section
variable {P : Program} {w : World} {K : PySem.W.Frag} {mg : Str → Option Value} {base : Heap} {CArr : Addr}
theorem sc_within_limits : FnScope ["u", "met"] ["u"] (defScope sWithinLimits) := ⟨rfl, rfl, rfl, by decide +kernel, rfl, by decide +kernel, by decide +kernel⟩
theorem ok_within_limits (T : Top1 K mg "within_limits" sWithinLimits ["u"]) (c_MOST_DEPTH : CI mg "MOST_DEPTH" 8) (c_MOST_SIZE : CI mg "MOST_SIZE" 512) (b_len : mg "len" = none) (D_deepest : Def P w K mg base CX0 "deepest" 2 ["met"] (spDeepest K CArr)) (D_walk : Def P w K mg base CX0 "walk" 2 ["u"] (spWalk CArr)) : Def P w K mg base CX0 "within_limits" 3 ["u"] (spLimits CArr) := by
  refine T.ok sc_within_limits (fun vs H Q E h => ?_) (fun f cdv A outer s H vs Q E hr h => ?_)
  · obtain ⟨u, v, rfl, _⟩ := h
    rfl
  obtain ⟨u, v, rfl, hu, hz, q⟩ := h
  refine ⟨_, (pss_cons (ps_set (i := 1) sc_within_limits.nd rfl (Or.inl rfl) (pe_fn D_walk (hr.mono (by decide)) pass0 (pa_cons (pv 0) pa_nil))) (pss_one (ps_ret (pe_and (pe_cmpR op_le (pe_callB call_len_seq (by rfl) b_len (by decide +kernel) (pa_cons (pv 1) pa_nil)) (pe_ci c_MOST_SIZE) (nomark _)) (pe_one (pe_cmpR op_le (pe_fn D_deepest (hr.mono (by decide)) pass0 (pa_cons (pv 1) pa_nil)) (pe_ci c_MOST_DEPTH) (nomark _))))))), ?_⟩
  refine ⟨_, rfl, u, v, rfl, hu, hz, fun p us H1 e1 hp hm => ?_⟩
  have hl := Paired.length hm
  rw [pre_len] at hl
  refine ⟨_, rfl, p, _, rfl, .inl (SqL.of hp), _, _, rfl, rfl, _, rfl, ?_⟩
  rw [hl]
  unfold tlim at q
  by_cases h1 : tsize v ≤ 512
  · refine itT (by omega) ⟨_, rfl, p, us, _, rfl, SqL.of hp, hm, _, _, rfl, rfl, ?_⟩
    rw [deepOf_pre]
    have q' : Q (.bl (decide (((tdepth v : Nat) : Int) ≤ 8))) H1 := by
      have e : decide (((tdepth v : Nat) : Int) ≤ 8) = decide (tsize v ≤ 512 ∧ tdepth v ≤ 8) := decide_eq_decide.mpr ⟨fun z => ⟨h1, by omega⟩, fun z => by omega⟩
      rw [e]
      exact q _ e1
    exact q'
  · rw [decide_eq_false (fun z => h1 z.1)] at q
    exact itF (by omega) (q _ e1)
end
end N
namespace N
open PySem L2
/-- product(numbers) of small numbers of 0 or more -/
def spProduct (K : PySem.W.Frag) : Sp := fun vs H Q _ => ∃ (a : Addr) (s : List Nat), vs = [.ref a] ∧ SqL K H a (Bs s) ∧ (∀ n ∈ s, n ≤ 1000000000000000000) ∧ Q (.int ((Vaarrm.product s : Nat) : Int)) H
section
variable {P : Program} {w : World} {K : PySem.W.Frag} {mg : Str → Option Value} {base : Heap}
theorem sc_product : FnScope ["numbers", "total", "n"] ["numbers"] (defScope sProduct) := ⟨rfl, rfl, rfl, by decide +kernel, rfl, by decide +kernel, by decide +kernel⟩
theorem ok_product (T : Top1 K mg "product" sProduct ["numbers"]) : Def P w K mg base CX0 "product" 1 ["numbers"] (spProduct K) := by
  refine T.ok sc_product (fun vs H Q E h => ?_) (fun f cdv A outer s H vs Q E hr h => ?_)
  · obtain ⟨a, s, rfl, _⟩ := h
    rfl
  obtain ⟨a, s, rfl, hS, hb, q⟩ := h
  refine ⟨_, (pss_cons (ps_set (i := 1) sc_product.nd rfl (Or.inl rfl) pe_int) (pss_cons (ps_for PassesOwn.never rfl (pi_list (pv 0)) (pg_name (i := 2) sc_product.nd rfl (Or.inl rfl)) (pss_one (ps_set (i := 1) sc_product.nd rfl (Or.inl rfl) (pe_op op_mul (pv 1) (pv 2))))) (pss_one (ps_ret (pv 1))))), ?_⟩
  refine ⟨_, rfl, a, rfl, ⟨_, hS⟩, for_list (K := K) (a := a) (xs := Bs s) (fun i σ H' => H' = H ∧ ∃ v, σ = [some (.ref a), some (.int ((Vaarrm.product (s.take i) : Nat) : Int)), v]) ⟨rfl, none, rfl⟩ (fun i σ H' _ h => h.1 ▸ hS) ?_ ?_⟩
  · rintro i y σ H' hi ⟨rfl, v, rfl⟩
    obtain ⟨n, hn, rfl⟩ := Bs_get hi
    have hle := hb n (List.mem_of_getElem? hn)
    refine ⟨_, rfl, _, rfl, _, _, rfl, rfl, .inr ⟨by omega, by omega⟩, rfl, some (.int (n : Int)), ?_⟩
    rw [take_more hn, prod_snoc, Int.natCast_mul]
    rfl
  · rintro σ H' ⟨rfl, v, rfl⟩
    rw [Bs_len, List.take_length]
    exact ⟨_, rfl, q⟩
end
end N
namespace N
open PySem L2
/-- is_shape(extents) -/
def spIsShape (K : PySem.W.Frag) : Sp := fun vs H Q _ => ∃ (a : Addr) (s : List Nat), vs = [.ref a] ∧ H a = some (.lst (Bs s)) ∧ (∀ n ∈ s, n ≤ 1000000000000000000) ∧ ∀ H', Same H H' → Q (.bl (Vaarrm.shapeOk s)) H'
section
variable {P : Program} {w : World} {K : PySem.W.Frag} {mg : Str → Option Value} {base : Heap}
theorem sc_is_shape : FnScope ["extents", "e"] ["extents"] (defScope sIsShape) := ⟨rfl, rfl, rfl, by decide +kernel, rfl, by decide +kernel, by decide +kernel⟩
theorem ok_is_shape (T : Top1 K mg "is_shape" sIsShape ["extents"]) (c_MOST_PRODUCT : CI mg "MOST_PRODUCT" 256) (c_MOST_RANK : CI mg "MOST_RANK" 4) (b_len : mg "len" = none) (D_product : Def P w K mg base CX0 "product" 1 ["numbers"] (spProduct K)) : Def P w K mg base CX0 "is_shape" 2 ["extents"] (spIsShape K) := by
  refine T.ok sc_is_shape (fun vs H Q E h => ?_) (fun f cdv A outer s H vs Q E hr h => ?_)
  · obtain ⟨a, s, rfl, _⟩ := h
    rfl
  obtain ⟨a, s, rfl, ha, hb, q⟩ := h
  have hS : SqL K H a (Bs s) := SqL.of ha
  refine ⟨_, (pss_cons (ps_if (pt_cmpR op_gt (pe_callB call_len_seq (by rfl) b_len (by decide +kernel) (pa_cons (pv 0) pa_nil)) (pe_ci c_MOST_RANK) (nomark _)) (pss_one (ps_ret pe_bl)) pss_nil) (pss_one (ps_ret (pe_cmpR op_le (pe_fn D_product (hr.mono (by decide)) pass0 (pa_cons (pe_lc (own := [("e", 1)]) (g := gName 1) rfl sc_is_shape.nd (pi_list (pv 0)) (blkOk_by (own := [("e", 1)]) (N := ["extents", "e"]) (sc := defScope sIsShape) (by decide +kernel)) (fun _ _ _ _ _ => (pg_name (i := 1) sc_is_shape.nd rfl (Or.inl rfl))) (fun _ _ _ _ _ => (pts_one (pt_cmpR op_ne (pv 1) pe_int (nomark _)))) (fun _ _ _ _ _ => (pv 1))) pa_nil)) (pe_ci c_MOST_PRODUCT) (nomark _))))), ?_⟩
  refine ⟨_, rfl, a, _, rfl, .inl hS, _, _, rfl, rfl, _, rfl, ?_⟩
  rw [Bs_len]
  by_cases c : 4 < s.length
  · have e : Vaarrm.shapeOk s = false := by
      unfold Vaarrm.shapeOk
      rw [decide_eq_false (by omega)]
      rfl
    rw [e] at q
    exact itT (by omega) (q _ (Same.refl _))
  refine itF (by omega) ⟨_, rfl, a, rfl, ⟨_, hS⟩, fun D hD => ?_⟩
  have sD : ∀ o, Same H (upd H D o) := fun o => same_new hD o
  refine lc_list (K := K) (a := a) (xs := Bs s) (fun i H' => H' = upd H D (.lst (Bs ((s.take i).filter fun n => n != 0)))) rfl (fun i H' _ h => by rw [h]; exact (sD _).seq hS) ?_ ?_
  · rintro i y H' hi rfl
    obtain ⟨n, hn, rfl⟩ := Bs_get hi
    refine ⟨rfl, _, rfl, rfl, _, rfl, ?_⟩
    rw [take_more hn, List.filter_append]
    by_cases z : n = 0
    · subst z
      refine iteF ?_
      simp
    · have e : (!decide (V.int (n : Int) = V.int 0)) = true := by
        rw [decide_eq_false (by intro h; have := V.int.inj h; omega)]
        rfl
      rw [e]
      refine iteT ⟨_, rfl, _, upd_same, ?_, ?_⟩
      · have h1 : (Bs ((s.take i).filter fun n => n != 0)).length ≤ 4 := by
          rw [Bs_len]
          have h2 := List.length_filter_le (fun n => n != 0) (s.take i)
          have h3 : (s.take i).length ≤ s.length := by rw [List.length_take]; omega
          omega
        exact Nat.lt_of_le_of_lt h1 (by decide)
      · rw [upd_upd]
        have e2 : [n].filter (fun n => n != 0) = [n] := by simp [z]
        rw [e2]
        unfold Bs
        rw [List.map_append]
        rfl
  · rintro H' rfl
    rw [Bs_len, List.take_length]
    refine ⟨D, _, rfl, SqL.of upd_same, fun n hn => hb n (List.mem_filter.mp hn).1, ?_⟩
    refine ⟨_, _, rfl, rfl, ?_⟩
    have e : Vaarrm.shapeOk s = decide (((Vaarrm.product (s.filter fun n => n != 0) : Nat) : Int) ≤ 256) := by
      unfold Vaarrm.shapeOk
      rw [decide_eq_true (by omega), Bool.true_and]
      exact decide_eq_decide.mpr (by omega)
    rw [e] at q
    exact q _ (sD _)
end
end N
namespace N
open PySem L2
def spShapes (C : Addr) : Sp := fun vs H Q _ => ∃ (u : V) (v : U), vs = [u] ∧ Rep C H u v ∧ tsize v ≤ 1000000 ∧ ∀ H', Same H H' → Q (.bl (tshapes v)) H'
section
variable {P : Program} {w : World} {K : PySem.W.Frag} {mg : Str → Option Value} {base : Heap} {CArr : Addr}
theorem sc_all_shapes : FnScope ["u", "level", "value"] ["u"] (defScope sAllShapes) := ⟨rfl, rfl, rfl, by decide +kernel, rfl, by decide +kernel, by decide +kernel⟩
theorem ok_all_shapes (T : Top1 K mg "all_shapes" sAllShapes ["u"]) (F_Arr : ClF K CArr ["extents", "members"]) (D_walk : Def P w K mg base CX0 "walk" 2 ["u"] (spWalk CArr)) (D_is_shape : Def P w K mg base CX0 "is_shape" 2 ["extents"] (spIsShape K)) (D_is_number : Def P w K mg base CX0 "is_number" 1 ["u"] (spIsNum CArr)) : Def P w K mg base CX0 "all_shapes" 3 ["u"] (spShapes CArr) := by
  refine T.ok sc_all_shapes (fun vs H Q E h => ?_) (fun f cdv A outer s H vs Q E hr h => ?_)
  · obtain ⟨u, v, rfl, _⟩ := h
    rfl
  obtain ⟨u, v, rfl, hu, hz, q⟩ := h
  refine ⟨_, (pss_cons (ps_for PassesOwn.never rfl (pi_list (pe_fn D_walk (hr.mono (by decide)) pass0 (pa_cons (pv 0) pa_nil))) (pg_tup rfl (pgs_cons (pg_name (i := 1) sc_all_shapes.nd rfl (Or.inl rfl)) (pgs_cons (pg_name (i := 2) sc_all_shapes.nd rfl (Or.inl rfl)) pgs_nil))) (pss_one (ps_if (PW.pt (pw_and (pt_not (pt_val (pe_fn D_is_number (hr.mono (by decide)) pass0 (pa_cons (pv 2) pa_nil)))) (pw_and1 (pt_not (pt_val (pe_fn D_is_shape (hr.mono (by decide)) pass0 (pa_cons (pe_fld (pv 2) rfl) pa_nil))))))) (pss_one (ps_ret pe_bl)) pss_nil))) (pss_one (ps_ret pe_bl))), ?_⟩
  refine ⟨_, rfl, u, v, rfl, hu, hz, fun p us H1 e1 hp hm => ?_⟩
  have gEx := F_Arr.no "extents" (by simp)
  rw [← shapes_pre 0] at q
  generalize pre 0 v = ms at *
  have hl := Paired.length hm
  refine ⟨p, rfl, ⟨_, SqL.of hp⟩, for_list (K := K) (a := p) (xs := us) (fun i σ H' => Same H1 H' ∧ (ms.take i).all goodMet = true ∧ ∃ a b, σ = [some u, a, b]) ⟨Same.refl _, rfl, none, none, rfl⟩ (fun i σ H' _ h => h.1.seq (SqL.of hp)) ?_ ?_⟩
  · rintro i y σ H' hi ⟨e2, hg, a, b, rfl⟩
    obtain ⟨⟨lv, v'⟩, hmi, q0, x, rfl, hq, hx⟩ := Paired.get2 hm hi
    refine ⟨q0, _, rfl, SqT.of (e2 _ _ hq), rfl, _, _, rfl, _, _, rfl, rfl, ?_⟩
    have eT : (ms.take (i + 1)).all goodMet = goodMet (lv, v') := by
      rw [take_more hmi, List.all_append, hg]
      simp
    refine ⟨_, rfl, x, v', rfl, hx.mono e2, _, rfl, ?_⟩
    cases v' with
    | num n => exact iteF (iteF ⟨e2, eT, _, _, rfl⟩)
    | arr s l =>
      obtain ⟨z, dx, ez, mz, um, rfl, hz', hez, hmz, hbs, hrs⟩ := hx.of_arr
      refine iteT ⟨_, rfl, z, CArr, dx, _, _, rfl, e2 _ _ hz', F_Arr.cl, gEx, arrF_ext _ _, ez, s, rfl, e2 _ _ hez, hbs, fun H3 e3 => ⟨_, rfl, ?_⟩⟩
      have eT' : (ms.take (i + 1)).all goodMet = Vaarrm.shapeOk s := eT
      cases hs : Vaarrm.shapeOk s with
      | true => exact iteF ⟨e2.trans e3, by rw [eT', hs], _, _, rfl⟩
      | false =>
        refine iteT ?_
        have ef : ms.all goodMet = false := by
          have h1 : ms.all goodMet = ((ms.take (i + 1)).all goodMet && (ms.drop (i + 1)).all goodMet) := by rw [← List.all_append, List.take_append_drop]
          rw [h1, eT', hs]
          rfl
        rw [ef] at q
        exact q _ (e1.trans (e2.trans e3))
  · rintro σ H' ⟨e2, hg, a, b, rfl⟩
    rw [hl, List.take_length] at hg
    rw [hg] at q
    exact q _ (e1.trans e2)
end
end N
namespace N
open PySem L2
/-- may it come out -/
def outOk (v : U) : Bool := tlim v && tshapes v
def spComeOut (C CR : Addr) : Sp := fun vs H Q E => ∃ (u : V) (v : U), vs = [u] ∧ Rep C H u v ∧ tsize v ≤ 1000000 ∧ (outOk v = true → ∀ H', Same H H' → Q u H') ∧ (outOk v = false → Fails CR E H (-5))
section
variable {P : Program} {w : World} {K : PySem.W.Frag} {mg : Str → Option Value} {base : Heap} {CArr CRef fRef : Addr}
theorem sc_come_out : FnScope ["u"] ["u"] (defScope sComeOut) := ⟨rfl, rfl, rfl, by decide +kernel, rfl, by decide +kernel, by decide +kernel⟩
theorem ok_come_out (T : Top1 K mg "come_out" sComeOut ["u"]) (c_LIMIT : CI mg "LIMIT" (-5)) (R : PySem.RefX.RefTxt K mg CRef fRef) (D_all_shapes : Def P w K mg base CX0 "all_shapes" 3 ["u"] (spShapes CArr)) (D_within_limits : Def P w K mg base CX0 "within_limits" 3 ["u"] (spLimits CArr)) : Def P w K mg base (L2.CX P w) "come_out" 4 ["u"] (spComeOut CArr CRef) := by
  refine T.okX sc_come_out (fun vs H Q E h => ?_) (fun f cdv A outer s H vs Q E hr h => ?_)
  · obtain ⟨u, v, rfl, _⟩ := h
    rfl
  obtain ⟨u, v, rfl, hu, hz, q, qf⟩ := h
  refine ⟨_, (pss_cons (ps_if (PW.pt (pw_or (pt_not (pt_val (pe_fn D_within_limits (hr.mono (by decide)) pass0 (pa_cons (pv 0) pa_nil)))) (pw_or1 (pt_not (pt_val (pe_fn D_all_shapes (hr.mono (by decide)) pass0 (pa_cons (pv 0) pa_nil))))))) (pss_one (ps_raiseRef rfl R hr (takes_of rfl rfl rfl rfl) (pa_cons (pe_ci c_LIMIT) pa_nil))) pss_nil) (pss_one (ps_ret (pv 0)))), ?_⟩
  unfold outOk at q qf
  refine ⟨_, rfl, u, v, rfl, hu, hz, fun H1 e1 => ⟨_, rfl, ?_⟩⟩
  cases h1 : tlim v with
  | false =>
    rw [h1] at qf
    exact iteT (iteT ⟨_, rfl, fun d hd => qf rfl d _ (e1.trans (same_new hd _)) upd_same⟩)
  | true =>
    refine iteF ⟨_, rfl, u, v, rfl, hu.mono e1, hz, fun H2 e2 => ⟨_, rfl, ?_⟩⟩
    rw [h1, Bool.true_and] at q qf
    cases h2 : tshapes v with
    | false => exact iteT ⟨_, rfl, fun d hd => qf h2 d _ ((e1.trans e2).trans (same_new hd _)) upd_same⟩
    | true => exact iteF ⟨_, rfl, q h2 _ (e1.trans e2)⟩
end
end N
namespace N
open PySem L2
/-! ### slices; cells -/
theorem cutV_nat (xs : List V) (a b : Nat) (h : a ≤ b) : cutV xs (some (a : Int)) (some (b : Int)) = (xs.drop a).take (b - a) := by
  unfold cutV
  rw [HT.sIx_nat, HT.sIx_nat]
  by_cases ha : a ≤ xs.length
  · rw [Nat.min_eq_left ha]
    by_cases hb : b ≤ xs.length
    · rw [Nat.min_eq_left hb]
    · rw [Nat.min_eq_right (by omega), List.take_of_length_le (by rw [List.length_drop]; omega), List.take_of_length_le (by rw [List.length_drop]; omega)]
  · rw [List.drop_eq_nil_of_le (by omega : xs.length ≤ min a xs.length), List.drop_eq_nil_of_le (by omega : xs.length ≤ a), List.take_nil, List.take_nil]
theorem cutV_from (xs : List V) (a : Nat) : cutV xs (some (a : Int)) none = xs.drop a := by
  unfold cutV
  rw [HT.sIx_nat, HT.sIx_none]
  by_cases ha : a ≤ xs.length
  · rw [Nat.min_eq_left ha, List.take_of_length_le (by rw [List.length_drop]; omega)]
  · rw [List.drop_eq_nil_of_le (by omega : xs.length ≤ min a xs.length), List.drop_eq_nil_of_le (by omega : xs.length ≤ a), List.take_nil]
theorem Bs_drop (s : List Nat) (n : Nat) : (Bs s).drop n = Bs (s.drop n) := List.map_drop.symm
theorem pieces_len (c : Nat) : ∀ (n : Nat) (l : List U), (Vaarrm.pieces c n l).length = n
  | 0, _ => rfl
  | n + 1, l => by
    show (Vaarrm.pieces c n (l.drop c)).length + 1 = n + 1
    rw [pieces_len c n]
theorem pieces_get (c : Nat) : ∀ (n : Nat) (l : List U) (j : Nat), j < n → (Vaarrm.pieces c n l)[j]? = some ((l.drop (j * c)).take c)
  | 0, _, _, h => absurd h (by omega)
  | n + 1, l, 0, _ => by
    show some (l.take c) = some ((l.drop (0 * c)).take c)
    rw [Nat.zero_mul, List.drop_zero]
  | n + 1, l, j + 1, h => by
    show (Vaarrm.pieces c n (l.drop c))[j]? = _
    rw [pieces_get c n (l.drop c) j (by omega), List.drop_drop]
    congr 3
    rw [Nat.succ_mul]
    omega
/-- the answer: a new list of lists -/
def GotR (C : Addr) (Q : VK) (H Hf : Hp) (ls : List (List U)) : Prop := ∀ (p : Addr) (xs : List V) (H' Hf' : Hp), H p = none → Grow H H' Hf Hf' → H' p = some (.lst xs) → Hf' p = none → Rows C Hf' xs ls → Q (.ref p) H'
end N
namespace N
open PySem L2
/-! ### sums and runs -/
def psums (n : Int) : List Int → List Int
  | [] => [n]
  | x :: r => n :: psums (n + x) r
theorem psums_snoc (x : Int) : ∀ (l : List Int) (n : Int), psums n (l ++ [x]) = psums n l ++ [n + l.sum + x]
  | [], n => by
    show n :: [n + x] = [n] ++ [n + 0 + x]
    rw [Int.add_zero]
    rfl
  | y :: l, n => by
    show n :: psums (n + y) (l ++ [x]) = n :: (psums (n + y) l ++ [n + (y :: l).sum + x])
    rw [psums_snoc x l (n + y), List.sum_cons, Int.add_assoc n y]
theorem psums_last : ∀ (l : List Int) (n : Int), ∃ zs, psums n l = zs ++ [n + l.sum]
  | [], n => ⟨[], by show [n] = [n + 0]; rw [Int.add_zero]⟩
  | y :: l, n => by
    obtain ⟨zs, h⟩ := psums_last l (n + y)
    refine ⟨n :: zs, ?_⟩
    show n :: psums (n + y) l = n :: (zs ++ [n + (y :: l).sum])
    rw [h, List.sum_cons, Int.add_assoc]
theorem psums_len : ∀ (l : List Int) (n : Int), (psums n l).length = l.length + 1
  | [], _ => rfl
  | y :: l, n => by
    show (psums (n + y) l).length + 1 = l.length + 1 + 1
    rw [psums_len l]
theorem atI_last {α : Type} (xs : List α) (y : α) : atI (xs ++ [y]) (-1) = some y := by
  unfold atI ixN
  rw [List.length_append, List.length_singleton]
  rw [if_neg (by omega), if_pos (by omega)]
  show (xs ++ [y])[(((xs.length + 1 : Nat) : Int) + -1).toNat]? = some y
  rw [show (((xs.length + 1 : Nat) : Int) + -1).toNat = xs.length by omega, List.getElem?_append_right (Nat.le_refl _), Nat.sub_self]
  rfl
/-- the runs from each offset to the next one -/
def runsBy : List Nat → List U → List U
  | a :: b :: r, l => Vaarrm.vector ((l.drop a).take (b - a)) :: runsBy (b :: r) l
  | _, _ => []
theorem runsBy_len : ∀ (ss : List Nat) (l : List U), (runsBy ss l).length = ss.length - 1
  | [], _ => rfl
  | [_], _ => rfl
  | a :: b :: r, l => by
    show (runsBy (b :: r) l).length + 1 = (b :: r).length
    rw [runsBy_len (b :: r) l]
    rfl
theorem runsBy_get : ∀ (ss : List Nat) (l : List U) (i a b : Nat), ss[i]? = some a → ss[i + 1]? = some b → (runsBy ss l)[i]? = some (Vaarrm.vector ((l.drop a).take (b - a)))
  | [], _, _, _, _, h, _ => by simp at h
  | [_], _, _, _, _, _, h => by simp at h
  | x :: y :: r, l, 0, a, b, h1, h2 => by
    have e1 : x = a := Option.some.inj h1
    have e2 : y = b := Option.some.inj h2
    subst e1
    subst e2
    rfl
  | x :: y :: r, l, i + 1, a, b, h1, h2 => runsBy_get (y :: r) l i a b h1 h2
/-- never going down -/
def up : List Nat → Prop
  | a :: b :: r => a ≤ b ∧ up (b :: r)
  | _ => True
theorem up_get : ∀ (ss : List Nat) (i a b : Nat), up ss → ss[i]? = some a → ss[i + 1]? = some b → a ≤ b
  | [], _, _, _, _, h, _ => by simp at h
  | [_], _, _, _, _, _, h => by simp at h
  | x :: y :: r, 0, a, b, h, h1, h2 => by
    have e1 : x = a := Option.some.inj h1
    have e2 : y = b := Option.some.inj h2
    subst e1
    subst e2
    exact h.1
  | x :: y :: r, i + 1, a, b, h, h1, h2 => up_get (y :: r) i a b h.2 h1 h2
/-- the answer: a new list of what stands for l, new things on the way -/
def GotN (C : Addr) (Q : VK) (H Hf : Hp) (l : List U) : Prop := ∀ (p : Addr) (xs : List V) (H' Hf' : Hp), H p = none → Grow H H' Hf Hf' → H' p = some (.lst xs) → Hf' p = none → Reps C Hf' xs l → Q (.ref p) H'
theorem take_sub {α : Type} (l : List α) (a n : Nat) : ((l.drop a).take n).length ≤ l.length := by
  rw [List.length_take, List.length_drop]
  omega
theorem psums_nat : ∀ (l : List Nat) (n : Nat), psums (n : Int) (l.map fun (x : Nat) => (x : Int)) = (Vaarrm.sums n l).map fun (x : Nat) => (x : Int)
  | [], _ => rfl
  | x :: l, n => by
    show (n : Int) :: psums ((n : Int) + (x : Int)) (l.map fun (x : Nat) => (x : Int)) = (n : Int) :: (Vaarrm.sums (n + x) l).map fun (x : Nat) => (x : Int)
    rw [← psums_nat l (n + x)]
    rfl
theorem sums_cons (n : Nat) (l : List Nat) : ∃ r, Vaarrm.sums n l = n :: r := by
  cases l with
  | nil => exact ⟨[], rfl⟩
  | cons x l => exact ⟨_, rfl⟩
theorem sums_up : ∀ (l : List Nat) (n : Nat), up (Vaarrm.sums n l)
  | [], _ => trivial
  | x :: l, n => by
    have h := sums_up l (n + x)
    obtain ⟨r, hr⟩ := sums_cons (n + x) l
    show up (n :: Vaarrm.sums (n + x) l)
    rw [hr] at h ⊢
    exact ⟨by omega, h⟩
theorem sums_len : ∀ (l : List Nat) (n : Nat), (Vaarrm.sums n l).length = l.length + 1
  | [], _ => rfl
  | x :: l, n => by
    show (Vaarrm.sums (n + x) l).length + 1 = l.length + 1 + 1
    rw [sums_len l]
theorem runs_is : ∀ (ls : List Nat) (n : Nat) (l : List U), Vaarrm.runs ls (l.drop n) = runsBy (Vaarrm.sums n ls) l
  | [], _, _ => rfl
  | x :: ls, n, l => by
    obtain ⟨r, hr⟩ := sums_cons (n + x) ls
    show Vaarrm.vector ((l.drop n).take x) :: Vaarrm.runs ls ((l.drop n).drop x) = runsBy (n :: Vaarrm.sums (n + x) ls) l
    rw [List.drop_drop, runs_is ls (n + x) l, hr]
    show _ = Vaarrm.vector ((l.drop n).take (n + x - n)) :: runsBy ((n + x) :: r) l
    rw [show n + x - n = x by omega]
theorem foldl_sum (l : List Int) : ∀ n : Int, l.foldl (fun n x => n + x) n = n + l.sum := by
  induction l with
  | nil =>
    intro n
    show n = n + 0
    omega
  | cons x l ih =>
    intro n
    rw [List.foldl_cons, ih, List.sum_cons]
    omega
theorem nats_of {ns : List Int} (h : ∀ n ∈ ns, 0 ≤ n) : ns = (ns.map fun n => n.toNat).map fun (x : Nat) => (x : Int) := by
  rw [List.map_map]
  conv => lhs; rw [← List.map_id ns]
  exact List.map_congr_left fun n hn => by
    show n = ((n.toNat : Nat) : Int)
    have := h n hn
    omega
theorem runs_size : ∀ (ls : List Nat) (l : List U), tsizeL (Vaarrm.runs ls l) ≤ ls.length + tsizeL l
  | [], _ => Nat.zero_le _
  | x :: ls, l => by
    have h1 := runs_size ls (l.drop x)
    have h3 : tsizeL l = tsizeL (l.take x) + tsizeL (l.drop x) := by rw [← tsizeL_append, List.take_append_drop]
    show 1 + tsizeL (l.take x) + tsizeL (Vaarrm.runs ls (l.drop x)) ≤ ls.length + 1 + tsizeL l
    omega
end N
namespace N
open PySem L2
/-- vector(members) -/
def spVector (C : Addr) : Sp := fun vs H Q _ => ∃ (Hf : Hp) (m : Addr) (us : List V) (l : List U), vs = [.ref m] ∧ Same Hf H ∧ Hf m = some (.lst us) ∧ Reps C Hf us l ∧ l.length ≤ 1000000 ∧ GotV C Q H Hf (Vaarrm.vector l)
section
variable {P : Program} {w : World} {K : PySem.W.Frag} {mg : Str → Option Value} {base : Heap} {CArr : Addr}
theorem sc_vector : FnScope ["members"] ["members"] (defScope sVector) := ⟨rfl, rfl, rfl, by decide +kernel, rfl, by decide +kernel, by decide +kernel⟩
theorem ok_vector (T : Top1 K mg "vector" sVector ["members"]) (b_len : mg "len" = none) (D_Arr : DefC P w K mg base "Arr" CArr 1 ["self", "extents", "members"] (spArrInit CArr)) : Def P w K mg base CX0 "vector" 3 ["members"] (spVector CArr) := by
  refine T.ok sc_vector (fun vs H Q E h => ?_) (fun f cdv A outer s H vs Q E hr h => ?_)
  · obtain ⟨Hf, m, us, l, rfl, _⟩ := h
    rfl
  obtain ⟨Hf, m, us, l, rfl, hs, hm, hl, hz, q⟩ := h
  refine ⟨_, (pss_one (ps_ret (pe_new D_Arr (hr.mono (by decide)) (pa_cons (pe_lst (pa_cons (pe_callB call_len_seq (by rfl) b_len (by decide +kernel) (pa_cons (pv 0) pa_nil)) pa_nil)) (pa_cons (pv 0) pa_nil))))), ?_⟩
  refine ⟨_, rfl, m, _, rfl, .inl (SqL.of (hs _ _ hm)), by show 1 ≤ sizeLine; decide, fun e he => ⟨_, rfl, new_arr fun x dx H2 nx e2 hx => ?_⟩⟩
  have g1 := Grow.freeze hs (Grow.of hs (same_new he (.lst [.int ((us.length : Nat) : Int)]))) he upd_same
  have g2 := Grow.freeze g1.fh (Grow.of g1.fh e2) nx hx
  have g := g1.trans g2
  have he2 : (upd Hf e (.lst [.int ((us.length : Nat) : Int)])) e = some (.lst (Bs [l.length])) := by
    rw [upd_same, ← hl.length]
    rfl
  exact q _ _ _ g (.arr upd_same (g2.ff _ _ he2) (g.ff _ _ hm) (fun n hn => by rw [List.mem_singleton.mp hn]; omega) (hl.mono g.ff))
end
end N
namespace N
open PySem L2
theorem listsOf_some (k : Nat) (n : Int) (r : List Int) (h : 0 ≤ n ∧ n ≤ (r.length : Int)) : Vaarrm.listsOf (k + 1) (n :: r) = (Vaarrm.listsOf k (r.drop n.toNat)).map fun l => r.take n.toNat :: l := by
  show (if 0 ≤ n ∧ n ≤ (r.length : Int) then _ else none) = _
  rw [if_pos h]
theorem listsOf_none (k : Nat) (n : Int) (r : List Int) (h : ¬ (0 ≤ n ∧ n ≤ (r.length : Int))) : Vaarrm.listsOf (k + 1) (n :: r) = none := by
  show (if 0 ≤ n ∧ n ≤ (r.length : Int) then _ else none) = _
  rw [if_neg h]
/-- cut_lists(d, numbers) -/
def spCutLists (K : PySem.W.Frag) (CR : Addr) : Sp := fun vs H Q E => ∃ (d : Nat) (a : Addr) (l : List Int), vs = [.int (d : Int), .ref a] ∧ SqL K H a (l.map V.int) ∧ l.length ≤ 100000 ∧ d ≤ 100 ∧ (∀ n ∈ l, -1000000000000000000 ≤ n ∧ n ≤ 1000000000000000000) ∧
  (∀ ds, Vaarrm.pathOf l = some ds → ds.length = d → ∀ (p : Addr) (xs : List V) (H' Hf : Hp), H p = none → Grow H H' H Hf → H' p = some (.lst xs) → Hf p = none → RowsI Hf xs ds → Q (.ref p) H') ∧ ((∀ ds, Vaarrm.pathOf l = some ds → ds.length ≠ d) → Fails CR E H (-11))
section
variable {P : Program} {w : World} {K : PySem.W.Frag} {mg : Str → Option Value} {base : Heap} {CRef fRef : Addr}
theorem sc_cut_lists : FnScope ["d", "numbers", "lists", "at", "turn", "behind", "length"] ["d", "numbers"] (defScope sCutLists) := ⟨rfl, rfl, rfl, by decide +kernel, rfl, by decide +kernel, by decide +kernel⟩
theorem ok_cut_lists (T : Top1 K mg "cut_lists" sCutLists ["d", "numbers"]) (c_DATA : CI mg "DATA" (-11)) (b_len : mg "len" = none) (b_range : mg "range" = none) (R : PySem.RefX.RefTxt K mg CRef fRef) : Def P w K mg base (L2.CX P w) "cut_lists" 2 ["d", "numbers"] (spCutLists K CRef) := by
  refine T.okX sc_cut_lists (fun vs H Q E h => ?_) (fun f cdv A outer s H vs Q E hr h => ?_)
  · obtain ⟨d, a, l, rfl, _⟩ := h
    rfl
  obtain ⟨d, a, l, rfl, hS, hz, hd, hb, q, qf⟩ := h
  refine ⟨_, (pss_cons (ps_set (i := 2) sc_cut_lists.nd rfl (Or.inl rfl) (pe_lst pa_nil)) (pss_cons (ps_set (i := 3) sc_cut_lists.nd rfl (Or.inl rfl) pe_int) (pss_cons (ps_for (passes_of rfl) rfl (pi_range1 rfl b_range (pa_cons (pv 0) pa_nil)) (pg_name (i := 4) sc_cut_lists.nd rfl (Or.inl rfl)) (pss_cons (ps_if (pt_cmpR op_ge (pv 3) (pe_callB call_len_seq (by rfl) b_len (by decide +kernel) (pa_cons (pv 1) pa_nil)) (nomark _)) (pss_one (ps_raiseRef rfl R hr (takes_of rfl rfl rfl rfl) (pa_cons (pe_ci c_DATA) pa_nil))) pss_nil) (pss_cons (ps_set (i := 5) sc_cut_lists.nd rfl (Or.inl rfl) (pe_op op_add (pv 3) pe_int)) (pss_cons (ps_set (i := 6) sc_cut_lists.nd rfl (Or.inl rfl) (pe_ix ix_list (pv 1) (pv 3) (fun _ _ => rfl))) (pss_cons (ps_if (PW.pt (pw_or (pt_cmpR op_lt (pv 6) pe_int (nomark _)) (pw_or1 (pt_cmpR op_gt (pv 6) (pe_op op_sub (pe_callB call_len_seq (by rfl) b_len (by decide +kernel) (pa_cons (pv 1) pa_nil)) (pv 5)) (nomark _))))) (pss_one (ps_raiseRef rfl R hr (takes_of rfl rfl rfl rfl) (pa_cons (pe_ci c_DATA) pa_nil))) pss_nil) (pss_cons (ps_expr (pe_bm PySem.F.plainAttrs_list PySem.F.slot_list_append PySem.F.type_list_append mt_append (pv 2) (pa_cons (pe_slice sl_list (pv 1) (po_some (pv 5)) (po_some (pe_op op_add (pv 5) (pv 6)))) pa_nil))) (pss_one (ps_set (i := 3) sc_cut_lists.nd rfl (Or.inl rfl) (pe_op op_add (pv 5) (pv 6)))))))))) (pss_cons (ps_if (pt_cmpR op_ne (pv 3) (pe_callB call_len_seq (by rfl) b_len (by decide +kernel) (pa_cons (pv 1) pa_nil)) (nomark _)) (pss_one (ps_raiseRef rfl R hr (takes_of rfl rfl rfl rfl) (pa_cons (pe_ci c_DATA) pa_nil))) pss_nil) (pss_one (ps_ret (pv 2))))))), ?_⟩
  refine ⟨Nat.zero_le _, fun sl hsl => ?_⟩
  refine ⟨_, rfl, (d : Int), rfl, by omega, by omega, ?_⟩
  rw [Int.toNat_natCast]
  refine for_range (lo := 0) (n := d) (fun t σ H1 => ∃ (i k : Nat) (acc : List V) (ds : List (List Int)) (Hf : Hp) (b c e : Option V), σ = [some (.int (d : Int)), some (.ref a), some (.ref sl), some (.int (i : Int)), b, c, e] ∧ Grow H H1 H Hf ∧ H1 sl = some (.lst acc) ∧ Hf sl = none ∧ RowsI Hf acc ds ∧ i ≤ l.length ∧ l.length - i < k ∧ ds.length = t ∧ t ≤ d ∧ Vaarrm.pathOf l = (Vaarrm.listsOf k (l.drop i)).map fun r => ds ++ r) ⟨0, l.length + 1, [], [], H, none, none, none, rfl, Grow.of (Same.refl _) (same_new hsl _), upd_same, hsl, .nil, Nat.zero_le _, by omega, rfl, Nat.zero_le _, ?_⟩ ?_ ?_
  · show Vaarrm.listsOf (l.length + 1) l = _
    rw [List.drop_zero]
    cases Vaarrm.listsOf (l.length + 1) l <;> rfl
  · rintro t σ H1 ht ⟨i, k, acc, ds, Hf, b, c, e, rfl, g, hs1, fS, hR, him, hk, hdt, _, hpath⟩
    have hS1 := g.same.seq hS
    refine ⟨_, rfl, _, rfl, a, _, rfl, .inl hS1, _, _, rfl, rfl, _, rfl, ?_⟩
    rw [List.length_map]
    cases k with
    | zero => exact absurd hk (by omega)
    | succ k =>
      by_cases h0 : l.length ≤ i
      · refine itT (by omega) ⟨_, rfl, fun dd hdd => qf (fun ds' hds' => ?_) dd _ (g.same.trans (same_new hdd _)) upd_same⟩
        have hnil : l.drop i = [] := List.drop_eq_nil_of_le (by omega)
        rw [hnil, hds'] at hpath
        have e : ds' = ds ++ [] := Option.some.inj hpath
        rw [e, List.append_nil]
        omega
      have hi : i < l.length := by omega
      have ei : l[i]? = some l[i] := List.getElem?_eq_getElem hi
      have ed : l.drop i = l[i] :: l.drop (i + 1) := List.drop_eq_getElem_cons hi
      rw [ed] at hpath
      have hbi := hb _ (List.getElem_mem hi)
      have hdl : (l.drop (i + 1)).length = l.length - (i + 1) := List.length_drop
      refine itF (by omega) ⟨_, rfl, _, _, rfl, rfl, ?_⟩
      refine ⟨_, rfl, _, rfl, a, _, _, _, rfl, rfl, hS1, atI_int (by omega) ei, ?_⟩
      generalize l[i] = n at *
      refine ⟨_, rfl, _, _, rfl, rfl, _, rfl, ?_⟩
      have bad : ¬ (0 ≤ n ∧ n ≤ ((l.drop (i + 1)).length : Int)) → Fails CRef E H (-11) := fun hn => qf (fun ds' hds' => by
        rw [hds', listsOf_none k n _ hn] at hpath
        cases hpath)
      by_cases h1 : n < 0
      · exact itT h1 ⟨_, rfl, fun d hd => bad (by omega) d _ (g.same.trans (same_new hd _)) upd_same⟩
      refine itF h1 ⟨_, rfl, _, rfl, a, _, rfl, .inl hS1, _, rfl, _, _, rfl, rfl, _, _, rfl, rfl, _, rfl, ?_⟩
      rw [List.length_map]
      by_cases h2 : (l.length : Int) - ((i : Int) + 1) < n
      · exact itT h2 ⟨_, rfl, fun d hd => bad (by omega) d _ (g.same.trans (same_new hd _)) upd_same⟩
      rw [listsOf_some k n _ (by omega), List.drop_drop] at hpath
      have en : n = ((n.toNat : Nat) : Int) := by omega
      have ea : ((i : Int) + 1) = ((i + 1 : Nat) : Int) := by omega
      have eb : ((i : Int) + 1) + n = ((i + 1 + n.toNat : Nat) : Int) := by omega
      refine itF h2 ⟨_, rfl, .inl ⟨rfl, _, SqL.of hs1⟩, _, rfl, _, rfl, _, rfl, _, rfl, _, rfl, _, _, rfl, rfl, _, rfl, a, _, rfl, hS1, fun p hp => ?_⟩
      have ec : cutV (l.map V.int) (some ((i : Int) + 1)) (some ((i : Int) + 1 + n)) = ((l.drop (i + 1)).take n.toNat).map V.int := by
        rw [eb, ea, cutV_nat _ _ _ (by omega), show i + 1 + n.toNat - (i + 1) = n.toNat by omega, List.map_take, List.map_drop]
      rw [ec]
      have g4 := Grow.freeze g.fh (Grow.of g.fh (same_new hp (.lst (((l.drop (i + 1)).take n.toNat).map V.int)))) hp upd_same
      have hs4 := g4.same _ _ hs1
      have hal := Paired.length hR
      refine ⟨sl, acc, _, rfl, rfl, hs4, Nat.lt_of_le_of_lt (show _ ≤ 100000 by omega) (by decide), ?_⟩
      have fS4 := g4.out hs1 fS
      refine ⟨_, rfl, _, rfl, _, _, rfl, rfl, ?_⟩
      refine ⟨i + 1 + n.toNat, k, acc ++ [.ref p], ds ++ [(l.drop (i + 1)).take n.toNat], _, some (.int (0 + (t : Int))), some (.int ((i : Int) + 1)), some (.int n), by rw [← eb]; rfl, (g.trans g4).mut hsl fS4, upd_same, fS4, Paired.snoc (hR.mono g4.ff) ⟨p, rfl, upd_same⟩, by omega, by omega, by rw [List.length_append, List.length_singleton]; omega, by omega, ?_⟩
      rw [hpath]
      cases Vaarrm.listsOf k (l.drop (i + 1 + n.toNat)) with
      | none => rfl
      | some r =>
        show some (ds ++ ((l.drop (i + 1)).take n.toNat :: r)) = some (ds ++ [(l.drop (i + 1)).take n.toNat] ++ r)
        rw [List.append_assoc]
        rfl
  · rintro σ H1 ⟨i, k, acc, ds, Hf, b, c, e, rfl, g, hs1, fS, hR, him, hk, hdt, _, hpath⟩
    have hS1 := g.same.seq hS
    refine ⟨_, rfl, _, rfl, a, _, rfl, .inl hS1, rfl, _, rfl, ?_⟩
    rw [List.length_map]
    cases k with
    | zero => exact absurd hk (by omega)
    | succ k =>
      by_cases h0 : i = l.length
      · refine ifF (by rw [h0]; simp) ⟨_, rfl, ?_⟩
        have hnil : l.drop i = [] := List.drop_eq_nil_of_le (by omega)
        rw [hnil] at hpath
        have hp2 : Vaarrm.pathOf l = some ds := by
          rw [hpath]
          show some (ds ++ []) = some ds
          rw [List.append_nil]
        exact q ds hp2 hdt sl acc H1 Hf hsl g hs1 fS hR
      · refine ifT (by simp; omega) ⟨_, rfl, fun dd hdd => qf (fun ds' hds' => ?_) dd _ (g.same.trans (same_new hdd _)) upd_same⟩
        have hi : i < l.length := by omega
        have ed : l.drop i = l[i] :: l.drop (i + 1) := List.drop_eq_getElem_cons hi
        rw [ed, hds'] at hpath
        generalize l[i] = n at *
        by_cases hc : 0 ≤ n ∧ n ≤ ((l.drop (i + 1)).length : Int)
        · rw [listsOf_some k n _ hc] at hpath
          cases hl : Vaarrm.listsOf k ((l.drop (i + 1)).drop n.toNat) with
          | none => rw [hl] at hpath; cases hpath
          | some r =>
            rw [hl] at hpath
            have e : ds' = ds ++ ((l.drop (i + 1)).take n.toNat :: r) := Option.some.inj hpath
            rw [e, List.length_append, List.length_cons]
            omega
        · rw [listsOf_none k n _ hc] at hpath
          cases hpath
end
end N
namespace N
open PySem L2
/-- look_sums(sums, many) -/
def spLookSums (K : PySem.W.Frag) (CR : Addr) : Sp := fun vs H Q E => ∃ (p : Addr) (d : List Int) (m : Int), vs = [.ref p, .int m] ∧ SqL K H p (d.map V.int) ∧ d.length ≤ 100000 ∧ (Vaarrm.goodOffsets d m = true → Q .non H) ∧ (Vaarrm.goodOffsets d m = false → Fails CR E H (-11))
def upI (d : List Int) : Bool := (d.zip (d.drop 1)).all fun x => decide (x.1 ≤ x.2)
theorem upI_no {d : List Int} {i : Nat} {a b : Int} (ha : d[i]? = some a) (hb : d[i + 1]? = some b) (h : b < a) : upI d = false := by
  cases e : upI d with
  | false => rfl
  | true =>
    have hm : (a, b) ∈ d.zip (d.drop 1) := by
      refine List.mem_of_getElem? (i := i) ?_
      rw [List.getElem?_zip_eq_some]
      refine ⟨ha, ?_⟩
      rw [List.getElem?_drop, Nat.add_comm]
      exact hb
    have := of_decide_eq_true (List.all_eq_true.mp e (a, b) hm)
    exact absurd this (by show ¬ a ≤ b; omega)
theorem upI_yes {d : List Int} (h : ∀ i a b, i + 1 < d.length → d[i]? = some a → d[i + 1]? = some b → a ≤ b) : upI d = true := by
  refine List.all_eq_true.mpr fun x hx => ?_
  obtain ⟨i, hi⟩ := List.getElem?_of_mem hx
  rw [List.getElem?_zip_eq_some, List.getElem?_drop, Nat.add_comm] at hi
  exact decide_eq_true (h i x.1 x.2 (List.getElem?_eq_some_iff.mp hi.2).1 hi.1 hi.2)
section
variable {P : Program} {w : World} {K : PySem.W.Frag} {mg : Str → Option Value} {base : Heap} {CRef fRef : Addr}
theorem sc_look_sums : FnScope ["sums", "many", "k"] ["sums", "many"] (defScope sLookSums) := ⟨rfl, rfl, rfl, by decide +kernel, rfl, by decide +kernel, by decide +kernel⟩
theorem ok_look_sums (T : Top1 K mg "look_sums" sLookSums ["sums", "many"]) (c_DATA : CI mg "DATA" (-11)) (b_len : mg "len" = none) (b_range : mg "range" = none) (R : PySem.RefX.RefTxt K mg CRef fRef) : Def P w K mg base (L2.CX P w) "look_sums" 2 ["sums", "many"] (spLookSums K CRef) := by
  refine T.okX sc_look_sums (fun vs H Q E h => ?_) (fun f cdv A outer s H vs Q E hr h => ?_)
  · obtain ⟨p, d, m, rfl, _⟩ := h
    rfl
  obtain ⟨p, d, m, rfl, hS, hz, q, qf⟩ := h
  refine ⟨_, (pss_cons (ps_if (PW.pt (pw_or (pt_cmpR op_eq (pe_callB call_len_seq (by rfl) b_len (by decide +kernel) (pa_cons (pv 0) pa_nil)) pe_int (nomark _)) (pw_or1 (pt_cmpR op_ne (pe_ix ix_list (pv 0) pe_int (fun _ _ => rfl)) pe_int (nomark _))))) (pss_one (ps_raiseRef rfl R hr (takes_of rfl rfl rfl rfl) (pa_cons (pe_ci c_DATA) pa_nil))) pss_nil) (pss_cons (ps_for (passes_of rfl) rfl (pi_range2 rfl b_range (pa_cons pe_int (pa_cons (pe_callB call_len_seq (by rfl) b_len (by decide +kernel) (pa_cons (pv 0) pa_nil)) pa_nil))) (pg_name (i := 2) sc_look_sums.nd rfl (Or.inl rfl)) (pss_one (ps_if (pt_cmpR op_lt (pe_ix ix_list (pv 0) (pv 2) (fun _ _ => rfl)) (pe_ix ix_list (pv 0) (pe_op op_sub (pv 2) pe_int) (fun _ _ => rfl)) (nomark _)) (pss_one (ps_raiseRef rfl R hr (takes_of rfl rfl rfl rfl) (pa_cons (pe_ci c_DATA) pa_nil))) pss_nil))) (pss_one (ps_if (pt_cmpR op_ne (pe_ix ix_list (pv 0) (pe_un un_neg pe_int) (fun _ _ => rfl)) (pv 1) (nomark _)) (pss_one (ps_raiseRef rfl R hr (takes_of rfl rfl rfl rfl) (pa_cons (pe_ci c_DATA) pa_nil))) pss_nil)))), ?_⟩
  refine ⟨_, rfl, p, _, rfl, .inl hS, rfl, _, rfl, ?_⟩
  rw [List.length_map]
  cases d with
  | nil => exact ifT (by simp) ⟨_, rfl, fun dd hdd => qf rfl dd _ (same_new hdd _) upd_same⟩
  | cons x r =>
    refine ifF (by rw [List.length_cons]; simp; omega) ⟨_, rfl, p, _, 0, _, rfl, rfl, hS, atI_nat (j := 0) rfl, rfl, _, rfl, ?_⟩
    have eg : Vaarrm.goodOffsets (x :: r) m = ((some x == some 0) && (((x :: r).getLast? == some m) && upI (x :: r))) := rfl
    rw [eg] at q qf
    by_cases hx : x = 0
    · subst hx
      refine ifF (by simp) ⟨_, rfl, p, _, rfl, .inl hS, 1, _, rfl, ⟨by omega, by omega, by omega, by rw [List.length_map]; omega⟩, ?_⟩
      rw [List.length_map]
      have q : ((some (0 : Int) == some 0) && ((((0 : Int) :: r).getLast? == some m) && upI ((0 : Int) :: r))) = true → Q .non H := q
      generalize hd : (0 : Int) :: r = d at *
      have hlen : 0 < d.length := by rw [← hd, List.length_cons]; omega
      refine for_range (lo := 1) (n := (((d.length : Nat) : Int) - 1).toNat) (fun i σ H' => H' = H ∧ (∀ (j : Nat) (a b : Int), j < i → d[j]? = some a → d[j + 1]? = some b → a ≤ b) ∧ ∃ c, σ = [some (.ref p), some (.int m), c]) ⟨rfl, fun j a b hj => absurd hj (by omega), none, rfl⟩ ?_ ?_
      · rintro i σ H' hi ⟨rfl, hj, c, rfl⟩
        have ea : d[i]? = some d[i] := List.getElem?_eq_getElem (by omega)
        have eb : d[i + 1]? = some d[i + 1] := List.getElem?_eq_getElem (by omega)
        generalize d[i] = y at *
        generalize d[i + 1] = z at *
        refine ⟨_, rfl, _, rfl, p, _, _, _, rfl, rfl, hS, atI_int (by omega) (by rw [show ((1 : Int) + (i : Int)).toNat = i + 1 by omega]; exact eb), _, rfl, _, rfl, _, _, rfl, rfl, p, _, _, _, rfl, rfl, hS, atI_int (by omega) (by rw [show ((1 : Int) + (i : Int) - 1).toNat = i by omega]; exact ea), _, _, rfl, rfl, _, rfl, ?_⟩
        by_cases h0 : z < y
        · refine itT h0 ⟨_, rfl, fun dd hdd => qf ?_ dd _ (same_new hdd _) upd_same⟩
          rw [upI_no ea eb h0, Bool.and_false, Bool.and_false]
        · refine itF h0 ⟨rfl, fun j a b hj' ha hb => ?_, _, rfl⟩
          by_cases e : j = i
          · subst e
            rw [ea] at ha
            rw [eb] at hb
            have := Option.some.inj ha
            have := Option.some.inj hb
            omega
          · exact hj j a b (by omega) ha hb
      · rintro σ H' ⟨rfl, hj, c, rfl⟩
        have hup : upI d = true := upI_yes fun i a b hi ha hb => hj i a b (by omega) ha hb
        rw [hup, Bool.and_true] at q qf
        obtain ⟨zs, y, rfl⟩ : ∃ zs y, d = zs ++ [y] := ⟨d.dropLast, d.getLast (List.length_pos_iff.mp hlen), (List.dropLast_concat_getLast _).symm⟩
        have hgl : (zs ++ [y]).getLast? = some y := List.getLast?_concat
        rw [hgl] at q qf
        refine ⟨_, rfl, _, rfl, p, _, -1, .int y, rfl, rfl, hS, by rw [List.map_append]; exact atI_last _ _, _, rfl, rfl, _, rfl, ?_⟩
        by_cases hy : y = m
        · subst hy
          refine ifF (by simp) (q ?_)
          simp
        · refine ifT (by simp; exact hy) ⟨_, rfl, fun dd hdd => qf ?_ dd _ (same_new hdd _) upd_same⟩
          simp [hy]
    · refine ifT (by simp; exact hx) ⟨_, rfl, fun dd hdd => qf ?_ dd _ (same_new hdd _) upd_same⟩
      simp [hx]
end
end N
namespace N
open PySem L2
/-! ### lists told apart: the last one and the others -/
/-- how many things the list above must end in -/
def cnt (os : List (List Int)) (m : List Int) : Int := match os with
  | [] => ((m.length : Nat) : Int)
  | o :: _ => Vaarrm.partsOf o
def goodUp : List (List Int) → List Int → Bool
  | [], _ => true
  | o :: r, m => Vaarrm.goodOffsets o (cnt r m) && goodUp r m
theorem goodLists_is : ∀ (os : List (List Int)) (m : List Int), Vaarrm.goodLists (os ++ [m]) = (goodUp os m && m.all (fun n => decide (-Vaarrm.G ≤ n) && decide (n ≤ Vaarrm.G)))
  | [], m => rfl
  | [o], m => by
    show (Vaarrm.goodOffsets o ((m.length : Nat) : Int) && m.all _) = ((Vaarrm.goodOffsets o ((m.length : Nat) : Int) && true) && m.all _)
    rw [Bool.and_true]
  | o :: o2 :: r, m => by
    have ih := goodLists_is (o2 :: r) m
    have e : Vaarrm.goodLists (o :: o2 :: (r ++ [m])) = (Vaarrm.goodOffsets o (Vaarrm.partsOf o2) && Vaarrm.goodLists (o2 :: (r ++ [m]))) := by
      cases r with
      | nil => rfl
      | cons x r => rfl
    show Vaarrm.goodLists (o :: o2 :: (r ++ [m])) = _
    rw [e]
    have ih : Vaarrm.goodLists (o2 :: (r ++ [m])) = _ := ih
    rw [ih, ← Bool.and_assoc]
    rfl
theorem levelOf_is : ∀ (os : List (List Int)) (m : List Int), Vaarrm.levelOf (os ++ [m]) = os.foldr (fun o us => Vaarrm.byOffsets o us) (m.map Vaarrm.V.num)
  | [], m => rfl
  | o :: r, m => by
    have ih := levelOf_is r m
    have e : Vaarrm.levelOf (o :: (r ++ [m])) = Vaarrm.byOffsets o (Vaarrm.levelOf (r ++ [m])) := by
      cases r with
      | nil => rfl
      | cons x r => rfl
    show Vaarrm.levelOf (o :: (r ++ [m])) = _
    rw [e, ih]
    rfl
/-- offsets that are good, as naturals -/
theorem good_nats : ∀ {d : List Int} {a : Int}, 0 ≤ a → d.head? = some a → upI d = true → ∃ ss : List Nat, d = ss.map (fun (x : Nat) => (x : Int)) ∧ up ss ∧ ss.head? = some a.toNat ∧ 0 < ss.length
  | [], _, _, h, _ => by cases h
  | [x], a, h0, h, _ => by
    have e : x = a := Option.some.inj h
    subst e
    refine ⟨[x.toNat], ?_, trivial, rfl, Nat.one_pos⟩
    show [x] = [((x.toNat : Nat) : Int)]
    rw [Int.toNat_of_nonneg h0]
  | x :: y :: r, a, h0, h, hu => by
    have e : x = a := Option.some.inj h
    subst e
    have hu2 : (decide (x ≤ y) && upI (y :: r)) = true := hu
    rw [Bool.and_eq_true] at hu2
    have hxy := of_decide_eq_true hu2.1
    obtain ⟨ss, hs, hup, hh, hl⟩ := good_nats (a := y) (by omega) rfl hu2.2
    cases ss with
    | nil => cases hh
    | cons z ss =>
      have ez : z = y.toNat := Option.some.inj hh
      refine ⟨x.toNat :: z :: ss, ?_, ⟨by omega, hup⟩, rfl, by simp⟩
      rw [List.map_cons, ← hs, Int.toNat_of_nonneg h0]
theorem by_runs : ∀ (ss : List Nat) (a : Nat) (l : List U), ss.head? = some a → up ss → Vaarrm.byOffsets (ss.map fun (x : Nat) => (x : Int)) (l.drop a) = runsBy ss l
  | [], _, _, h, _ => by cases h
  | [x], _, _, _, _ => rfl
  | x :: y :: r, a, l, h, hu => by
    have e : x = a := Option.some.inj h
    subst e
    have hxy : x ≤ y := hu.1
    have ih := by_runs (y :: r) y l rfl hu.2
    show Vaarrm.vector ((l.drop x).take (((y : Int) - (x : Int)).toNat)) :: Vaarrm.byOffsets ((y :: r).map fun (x : Nat) => (x : Int)) ((l.drop x).drop (((y : Int) - (x : Int)).toNat)) = Vaarrm.vector ((l.drop x).take (y - x)) :: runsBy (y :: r) l
    rw [show ((y : Int) - (x : Int)).toNat = y - x by omega, List.drop_drop, show x + (y - x) = y by omega, ih]
theorem by_size : ∀ (d : List Int) (l : List U), tsizeL (Vaarrm.byOffsets d l) ≤ d.length + tsizeL l
  | [], _ => Nat.zero_le _
  | [_], _ => Nat.zero_le _
  | a :: b :: r, l => by
    have h1 := by_size (b :: r) (l.drop (b - a).toNat)
    have h3 : tsizeL l = tsizeL (l.take (b - a).toNat) + tsizeL (l.drop (b - a).toNat) := by rw [← tsizeL_append, List.take_append_drop]
    show 1 + tsizeL (l.take (b - a).toNat) + tsizeL (Vaarrm.byOffsets (b :: r) (l.drop (b - a).toNat)) ≤ (b :: r).length + 1 + tsizeL l
    omega
theorem nums_size : ∀ m : List Int, tsizeL (m.map Vaarrm.V.num) = m.length
  | [] => rfl
  | n :: m => by
    show 1 + tsizeL (m.map Vaarrm.V.num) = m.length + 1
    rw [nums_size m]
    omega
theorem level_size (m : List Int) : ∀ os : List (List Int), (∀ o ∈ os, o.length ≤ 2000) → tsizeL (os.foldr (fun o us => Vaarrm.byOffsets o us) (m.map Vaarrm.V.num)) ≤ 2000 * os.length + m.length
  | [], _ => by
    rw [List.foldr_nil, nums_size]
    omega
  | o :: os, h => by
    have h1 := level_size m os fun x hx => h x (List.mem_cons_of_mem _ hx)
    have h2 := by_size o (os.foldr (fun o us => Vaarrm.byOffsets o us) (m.map Vaarrm.V.num))
    have h3 := h o List.mem_cons_self
    rw [List.foldr_cons, List.length_cons]
    omega
theorem listsOf_each : ∀ (k : Nat) (l : List Int) (ds : List (List Int)), Vaarrm.listsOf k l = some ds → ∀ d ∈ ds, d.length ≤ l.length ∧ ∀ n ∈ d, n ∈ l
  | 0, [], ds, h, d, hd => by
    have e : ([] : List (List Int)) = ds := Option.some.inj h
    rw [← e] at hd
    cases hd
  | 0, _ :: _, _, h, _, _ => by cases h
  | k + 1, [], ds, h, d, hd => by
    have e : ([] : List (List Int)) = ds := Option.some.inj h
    rw [← e] at hd
    cases hd
  | k + 1, n :: r, ds, h, d, hd => by
    by_cases hc : 0 ≤ n ∧ n ≤ (r.length : Int)
    · rw [listsOf_some k n r hc] at h
      cases hl : Vaarrm.listsOf k (r.drop n.toNat) with
      | none => rw [hl] at h; cases h
      | some rs =>
        rw [hl] at h
        have e : r.take n.toNat :: rs = ds := Option.some.inj h
        rw [← e] at hd
        rcases List.mem_cons.mp hd with rfl | hd
        · refine ⟨?_, fun x hx => List.mem_cons_of_mem _ (List.mem_of_mem_take hx)⟩
          rw [List.length_take, List.length_cons]
          omega
        · have ih := listsOf_each k _ rs hl d hd
          rw [List.length_drop] at ih
          refine ⟨?_, fun x hx => List.mem_cons_of_mem _ (List.mem_of_mem_drop (ih.2 x hx))⟩
          rw [List.length_cons]
          omega
    · rw [listsOf_none k n r hc] at h
      cases h
theorem reps_nums {C : Addr} {H : Hp} : ∀ {ns : List Int}, (∀ n ∈ ns, -1000000000000000000 ≤ n ∧ n ≤ 1000000000000000000) → Reps C H (ns.map V.int) (ns.map Vaarrm.V.num)
  | [], _ => .nil
  | n :: ns, h => .cons (.num n (h n List.mem_cons_self)) (reps_nums fun m hm => h m (List.mem_cons_of_mem _ hm))
end N
/-! ### list(reversed(a list)): a new list -/
namespace N
open PySem PySem.Spec PyProof.Rows L2 RT
section
variable {prog : Program} {w : World} {A : Around} {E : Value → Shared → Prop} {s : Shared}
theorem extend_rev {R : Result → Shared → Prop} {it l S : Addr} {xs : Array Value} {c0 : Nat} (hh : A.handled = none) (hit : s.heap.IsRevIter it l ((xs.size : Int) - 1)) (hl : s.heap.IsList l xs) (hne : l ≠ it) (hn : xs.size ≤ sizeLine)
    (hS : s.heap.get? S = some { cls := .type "list", data := .seq #[] c0 }) (hSi : S ≠ it) (hSl : S ≠ l)
    (hR : ∀ (s' : Shared) (acc : Array Value) (c : Nat), Moved [S, it] (fun a b => b = a) s s' → s'.heap.get? S = some { cls := .type "list", dict := none, data := .seq acc c, slots := #[] } → ItemsOf (fun i v => xs[xs.size - 1 - i]? = some v) acc xs.size → R (.ok (.ret .none)) s') :
    wpAny (model prog w) A.in1 (Builtin.List.listExtendWith (.ref S) (.ref it) .none)
      (fun fin s' => match fin with | .done f => R (.ok f) s' | .again c' => c'.quiet = true ∧ codeAny (model prog w) A c' R s') (fun e s' => R (.error e) s') s := by
  have W := (Walks.listRev (prog := prog) (w := w) (A := A.in1) hh it l hne xs).toS
  have hT : s.TypeIs (.ref it) "list_reverseiterator" := hit.typeIs
  have away : S ∉ [it, l] := fun h => by
    rcases List.mem_cons.mp h with h | h
    · exact hSi h
    · exact hSl (List.mem_singleton.mp h)
  have b0 : Builtin.List.listSameRef (.ref S) (.ref it) = false := by simp [Builtin.List.listSameRef, hSi]
  unfold Builtin.List.listExtendWith
  refine wpAny_bind (wpAny_typeOf hT ?_)
  rw [if_neg (by rw [b0]; decide)]
  refine wpAny_bind (wpAny_pyIter_revIter (s := s) hit ?_)
  refine wpAny_bind (wpAny_holding ?_)
  unfold Builtin.List.listLengthHint
  refine wpAny_bind (wpAny_specialOf hT nolen_lri ?_)
  show wpAny _ A.in1 (specialOf (Value.ref it) (Str.ofString "__length_hint__") >>= _) _ _ _
  refine wpAny_bind (wpAny_specialOf hT hint_lri ?_)
  generalize ew : ("list_reverseiterator.__length_hint__" : String) = wd
  wp_delta
  rw [show splitId wd = some ("list_reverseiterator", "__length_hint__") from by subst ew; decide +kernel]
  subst ew
  refine wpAny_bind (wpAny_isInstance (b := true) hT (by rw [isSubtype_type]; kernel_rfl) ?_)
  refine wpAny_pure ?_
  rw [if_neg (by decide)]
  have z0 : ((xs.size : Nat) : Int) - 1 - ((0 : Nat) : Int) = (xs.size : Int) - 1 := by omega
  exact wpAny_pure ⟨plainId_quiet F.plain_extend_loop _, codeAny_extend_loopS W hn _ away _ xs.size 0 _ _ _ rfl (Nat.zero_le _) ⟨Nat.zero_le _, by rw [z0]; exact hit, hl⟩ hS (ItemsOf.nil _) fun s' acc c hm hs' ha => hR s' acc c hm hs' ha⟩
theorem init_rev {R : Result → Shared → Prop} {it l S : Addr} {xs : Array Value} (hh : A.handled = none) (hit : s.heap.IsRevIter it l ((xs.size : Int) - 1)) (hl : s.heap.IsList l xs) (hne : l ≠ it) (hn : xs.size ≤ sizeLine)
    (hS : s.heap.get? S = some { cls := .type "list", data := .seq #[] }) (hSi : S ≠ it) (hSl : S ≠ l)
    (hR : ∀ (s' : Shared) (acc : Array Value) (c : Nat), Moved [S, it] (fun a b => b = a) s s' → s'.heap.get? S = some { cls := .type "list", dict := none, data := .seq acc c, slots := #[] } → ItemsOf (fun i v => xs[xs.size - 1 - i]? = some v) acc xs.size → R (.ok (.ret .none)) s') :
    wpAny (model prog w) A.in1 (Builtin.«list.__init__» ⟨[.ref S, .ref it], []⟩)
      (fun fin s' => match fin with | .done f => R (.ok f) s' | .again c' => c'.quiet = true ∧ codeAny (model prog w) A c' R s') (fun e s' => R (.error e) s') s := by
  show wpAny _ A.in1 (do let was ← Builtin.List.listItems (.ref S); Builtin.List.listUpdate (.ref S) (fun _ => #[]); letGo was.toList.reverse; Builtin.List.listExtendWith (.ref S) (.ref it) .none) _ _ s
  refine wpAny_bind ?_
  unfold Builtin.List.listItems
  refine wpAny_bind (wpAny_seqItems hS rfl (wpAny_pure ?_))
  show wpAny _ A.in1 (updateSeq S (fun _ => #[]) >>= fun _ => letGo (#[] : Array Value).toList.reverse >>= fun _ => Builtin.List.listExtendWith (.ref S) (.ref it) .none) _ _ s
  refine wpAny_bind (wpAny_updateSeq hS rfl ?_)
  have hS1 := Heap.get?_update_self (Obj.mapSeq (fun _ => (#[] : Array Value))) hS rfl
  have k1 : ∀ b o, b ≠ S → s.heap.get? b = some o → (s.heap.update S (Obj.mapSeq (fun _ => (#[] : Array Value)))).get? b = some o := fun b o hb e => (Heap.get?_update_other _ _ (Ne.symm hb)).trans e
  refine wpAny_bind (wpAny_letGo ?_)
  obtain ⟨ol, hol, hlr⟩ := id hl
  refine extend_rev hh (hit.at fun o e => k1 it o (Ne.symm hSi) e) ⟨ol, k1 l ol (Ne.symm hSl) hol, hlr⟩ hne hn hS1 hSi hSl fun s' acc c hm hs' ha => ?_
  have m1 : Moved [S, it] (fun a b => b = a) s { s with heap := s.heap.update S (Obj.mapSeq (fun _ => (#[] : Array Value))), toks := s.toks } := (Moved.refl (wr := [S, it]) (G := fun a b => b = a) (fun _ => rfl)).then_heap (Nat.le_refl _) fun b o hb e => k1 b o (fun h => hb (by rw [h]; exact List.mem_cons_self)) e
  exact hR s' acc c (Moved.trans (fun _ _ _ p q => by rw [q, p]) m1 hm) hs' ha
theorem call_list_rev {it l : Addr} {xs : Array Value} {Q : Value → Shared → Prop} (hh : A.handled = none) (hit : s.heap.IsRevIter it l ((xs.size : Int) - 1)) (hl : s.heap.IsList l xs) (hne : l ≠ it) (hn : xs.size ≤ sizeLine)
    (hQ : ∀ (h' : Heap) (tk : Nat) (acc : Array Value) (c : Nat), (∀ b o, b ≠ it → s.heap.get? b = some o → h'.get? b = some o) → h'.get? s.heap.objs.size = some { cls := .type "list", dict := none, data := .seq acc c, slots := #[] } → ItemsOf (fun i v => xs[xs.size - 1 - i]? = some v) acc xs.size →
      Q (.ref s.heap.objs.size) { s with heap := h', toks := tk }) :
    wpAny (model prog w) A (call (.type "list") [.ref it]) Q E s := by
  obtain ⟨oi, hoi, _⟩ := id hit
  obtain ⟨ol, hol, _⟩ := id hl
  refine callType_codes (Q₁ := fun obj s1 => obj = .ref s.heap.objs.size ∧ s1 = { s with heap := s.heap.push { cls := .type "list", data := .seq #[] } }) F.called_list (F.typeCall_list_1 _) F.entry_list_init (code_list_new _ ⟨rfl, rfl⟩) fun obj s1 h1 => ?_
  obtain ⟨rfl, rfl⟩ := h1
  have hS : (s.heap.push { cls := .type "list", data := .seq #[] }).get? s.heap.objs.size = some { cls := .type "list", data := .seq #[] } := Heap.get?_push_size _ rfl
  refine ⟨⟨_, hS, rfl⟩, F.args_list_init_2 _ _, init_rev (A := A.in1) hh (hit.at fun o e => Heap.get?_push_of_some _ e) (hl.push _) hne hn hS (Nat.ne_of_gt (Heap.lt_size hoi)) (Nat.ne_of_gt (Heap.lt_size hol)) fun s' acc c hm hs' ha => ⟨rfl, ?_⟩⟩
  rw [Moved.eq_with hm]
  refine hQ s'.heap s'.toks acc c (fun b o hb e => hm.heap b o (fun h => ?_) (Heap.get?_push_of_some _ e)) hs' ha
  rcases List.mem_cons.mp h with h | h
  · exact absurd (Heap.lt_size e) (by rw [h]; exact Nat.lt_irrefl _)
  · exact hb (List.mem_singleton.mp h)
end
/-- what is asked: a list, read; what is told: a new list, turned round -/
def tListRev (K : PySem.W.Frag) (te : TE) : TE := fun σ H Q => te σ H fun v H1 => ∃ (a : Addr) (xs : List V), v = .ref a ∧ SqL K H1 a xs ∧ ∀ q, H1 q = none → Q (.ref q) (upd H1 q (.lst xs.reverse))
section
variable {X : Cx}
theorem pe_listRev {e : Expr} {te : TE} {p p2 pos pos2 : Pos} (hc : X.calm = true) (hg : Gl X "list") (hm : X.mg "list" = none) (hg2 : Gl X "reversed") (hm2 : X.mg "reversed" = none) (he : PE X e te)
    (hs : starEach [e] X.env = (false, eval e X.env) :: starEach [] X.env := by rfl)
    (hs2 : starEach [.Call (.Name "reversed" p2) [e] [] pos2] X.env = (false, eval (.Call (.Name "reversed" p2) [e] [] pos2) X.env) :: starEach [] X.env := by rfl) :
    PE X (.Call (.Name "list" p) [.Call (.Name "reversed" p2) [e] [] pos2] [] pos) (tListRev X.K te) := by
  refine ⟨fun pins s σ H Q I h => ?_⟩
  refine Call_ (ld_blt I hg hm boot_list (PyProof.Rows.callWith_type1 (args_cons (Call_ (ld_blt I hg2 hm2 PyProof.Rows.boot_reversed (PyProof.Rows.callWith_type1 (args_cons (thn (he.run pins s σ H _ I h) fun u s1 ⟨v, H1, I1, r1, q1⟩ => args_nil ?_) hs) hs rfl))) hs2) hs2 rfl))
  obtain ⟨a, xs, ev, hq, q⟩ := q1
  subst ev
  obtain rfl : u = Value.ref a := r1
  obtain ⟨its, rv, p', hz⟩ := I1.list hq
  refine call_reversed_list p'.isList (args_nil ?_)
  have hl := p'.isList
  obtain ⟨ol, hol, _⟩ := id hl
  have hne : a ≠ s1.heap.objs.size := Nat.ne_of_lt (Heap.lt_size hol)
  have hn : its.toArray.size ≤ sizeLine := by rw [List.size_toArray, ← rv.length]; exact hz
  have I2 : Inv X pins σ H1 { s1 with heap := s1.heap.push (revObj a ((its.toArray.size : Int) - 1)) } := I1.kept (t' := s1.toks) fun b o e => Heap.get?_push_of_some _ e
  obtain ⟨f0, f1, f2, f3, f4, f5⟩ := I1.fpOk (H' := H1) (b := s1.heap.objs.size) (Nat.le_refl _) (I1.hok.fresh (Nat.le_refl _))
  refine call_list_rev (s := { s1 with heap := s1.heap.push (revObj a ((its.toArray.size : Int) - 1)) }) (I1.ok.hd hc) ⟨_, Heap.get?_push_size _ rfl, rfl, rfl⟩ (hl.push _) hne hn fun h' tk acc c hk hN hi => ?_
  have k2 : ∀ b o, b ∉ [s1.heap.objs.size] → (s1.heap.push (revObj a ((its.toArray.size : Int) - 1))).get? b = some o → h'.get? b = some o := fun b o hb e => hk b o (fun z => hb (by rw [z]; exact List.mem_cons_self)) e
  have I3 := I2.turnedNew (t' := tk) (ob := .lst xs.reverse) k2 (fun b hb => by rw [List.mem_singleton.mp hb]; exact ⟨f0, f1, f2, f3, f4, f5⟩) (Nat.le_refl _) ⟨by rw [List.length_reverse]; exact hz, acc.toList, c, vals_rev rv hi, by rw [Array.toArray_toList]; exact hN⟩
  exact ⟨.ref _, _, I3, rfl, q _ (I2.hok.fresh (Nat.le_refl _))⟩
end
end N
namespace N
open PySem L2
/-- digits, the last one first -/
def rr : Nat → Nat → List Nat
  | 0, _ => []
  | k + 1, m => if m = 0 then [] else (48 + m % 10) :: rr k (m / 10)
theorem rr_len : ∀ k m, (rr k m).length ≤ k
  | 0, _ => Nat.le_refl _
  | k + 1, m => by
    unfold rr
    split
    · exact Nat.zero_le _
    · have := rr_len k (m / 10)
      rw [List.length_cons]
      omega
theorem rr_zero : ∀ k, rr k 0 = []
  | 0 => rfl
  | _ + 1 => rfl
theorem digitsFrom_is : ∀ k n, Vaarrm.digitsFrom (k + 1) n = ((48 + n % 10) :: rr k (n / 10)).reverse
  | 0, n => by
    unfold Vaarrm.digitsFrom rr
    split
    · rw [Nat.mod_eq_of_lt (by omega)]; rfl
    · rfl
  | k + 1, n => by
    unfold Vaarrm.digitsFrom
    by_cases h : n < 10
    · rw [if_pos h, Nat.div_eq_of_lt h, Nat.mod_eq_of_lt h, rr_zero]; rfl
    · rw [if_neg h, digitsFrom_is k, List.reverse_cons (a := 48 + n % 10)]
      have e : rr (k + 1) (n / 10) = (48 + n / 10 % 10) :: rr k (n / 10 / 10) := by
        rw [show rr (k + 1) (n / 10) = if n / 10 = 0 then [] else (48 + n / 10 % 10) :: rr k (n / 10 / 10) from rfl, if_neg (by omega)]
      rw [e]
theorem decimal_is (n : Nat) : Vaarrm.decimal n = ((48 + n % 10) :: rr 39 (n / 10)).reverse := digitsFrom_is 39 n
theorem decimal_len (n : Nat) : (Vaarrm.decimal n).length ≤ 40 := by
  rw [decimal_is, List.length_reverse, List.length_cons]
  have := rr_len 39 (n / 10)
  omega
theorem Bs_append (a b : List Nat) : Bs (a ++ b) = Bs a ++ Bs b := List.map_append
theorem Bs_reverse (a : List Nat) : (Bs a).reverse = Bs a.reverse := List.map_reverse.symm
end N
namespace N
open PySem L2
theorem spaced_snoc (l : List (List Nat)) (y : List Nat) : Vaarrm.spaced (l ++ [y]) = if l.length = 0 then y else Vaarrm.spaced l ++ 32 :: y := by
  cases l with
  | nil =>
    show y ++ [] = y
    rw [List.append_nil]
  | cons x r =>
    show x ++ (r ++ [y]).flatMap (fun z => 32 :: z) = (x ++ r.flatMap (fun z => 32 :: z)) ++ 32 :: y
    rw [List.flatMap_append, List.append_assoc]
    simp
theorem spaced_len (s : List Nat) : (Vaarrm.spaced (s.map Vaarrm.decimal)).length ≤ 41 * s.length := by
  have go : ∀ r : List Nat, ((r.map Vaarrm.decimal).flatMap (fun z => 32 :: z)).length ≤ 41 * r.length := fun r => by
    induction r with
    | nil => exact Nat.le_refl _
    | cons x r ih =>
      have := decimal_len x
      simp only [List.map_cons, List.flatMap_cons, List.length_append, List.length_cons]
      omega
  cases s with
  | nil => exact Nat.le_refl _
  | cons x r =>
    have h1 := go r
    have h2 := decimal_len x
    show (Vaarrm.decimal x ++ (r.map Vaarrm.decimal).flatMap (fun z => 32 :: z)).length ≤ _
    rw [List.length_append, List.length_cons]
    omega
theorem numText_len (n : Int) : (Vaarrm.numText n).length ≤ 41 := by
  unfold Vaarrm.numText
  have h1 := decimal_len n.natAbs
  have h2 := decimal_len n.toNat
  split
  · rw [List.length_cons]; omega
  · omega
mutual
/-- a value's text, whole -/
def ttext : U → List Nat
  | .num n => Vaarrm.numText n
  | .arr s l => 91 :: (Vaarrm.spaced (s.map Vaarrm.decimal) ++ (58 :: (ttextL l ++ [93])))
def ttextL : List U → List Nat
  | [] => []
  | v :: l => 32 :: (ttext v ++ ttextL l)
end
theorem ttextL_append : ∀ l m : List U, ttextL (l ++ m) = ttextL l ++ ttextL m
  | [], _ => rfl
  | v :: l, m => by
    show 32 :: (ttext v ++ ttextL (l ++ m)) = 32 :: (ttext v ++ ttextL l) ++ ttextL m
    rw [ttextL_append l m, List.cons_append, List.append_assoc]
mutual
theorem text_is : ∀ (v : U) (k : Nat), tdepth v < k → Vaarrm.textOf k v = ttext v
  | v, 0, h => absurd h (by omega)
  | .num n, k + 1, _ => rfl
  | .arr s l, k + 1, h => by
    have h' : 1 + tdepthL l < k + 1 := h
    show 91 :: (Vaarrm.spaced (s.map Vaarrm.decimal) ++ (58 :: (l.flatMap (fun v => 32 :: Vaarrm.textOf k v) ++ [93]))) = 91 :: (Vaarrm.spaced (s.map Vaarrm.decimal) ++ (58 :: (ttextL l ++ [93])))
    rw [text_isL l k (by omega)]
theorem text_isL : ∀ (l : List U) (k : Nat), tdepthL l < k → l.flatMap (fun v => 32 :: Vaarrm.textOf k v) = ttextL l
  | [], k, _ => rfl
  | v :: l, k, h => by
    have h' : max (tdepth v) (tdepthL l) < k := h
    rw [List.flatMap_cons, text_isL l k (by omega), text_is v k (by omega)]
    rfl
end
mutual
theorem ttext_len : ∀ v : U, tshapes v = true → (ttext v).length + 1 ≤ 200 * tsize v
  | .num n, _ => by
    have := numText_len n
    show (Vaarrm.numText n).length + 1 ≤ 200 * 1
    omega
  | .arr s l, h => by
    have h' : (Vaarrm.shapeOk s && tshapesL l) = true := h
    rw [Bool.and_eq_true] at h'
    have h1 := ttext_lenL l h'.2
    have h2 := spaced_len s
    have h3 : s.length ≤ 4 := by
      have := h'.1
      unfold Vaarrm.shapeOk at this
      rw [Bool.and_eq_true] at this
      exact of_decide_eq_true this.1
    show (91 :: (Vaarrm.spaced (s.map Vaarrm.decimal) ++ (58 :: (ttextL l ++ [93])))).length + 1 ≤ 200 * (1 + tsizeL l)
    simp only [List.length_cons, List.length_append, List.length_nil]
    omega
theorem ttext_lenL : ∀ l : List U, tshapesL l = true → (ttextL l).length ≤ 200 * tsizeL l
  | [], _ => Nat.le_refl _
  | v :: l, h => by
    have h' : (tshapes v && tshapesL l) = true := h
    rw [Bool.and_eq_true] at h'
    have h1 := ttext_len v h'.1
    have h2 := ttext_lenL l h'.2
    show (32 :: (ttext v ++ ttextL l)).length ≤ 200 * (tsize v + tsizeL l)
    rw [List.length_cons, List.length_append]
    omega
end
theorem ttextL_take_len {l : List U} (h : tshapesL l = true) (i : Nat) : (ttextL (l.take i)).length ≤ 200 * tsizeL l := by
  have e : ttextL l = ttextL (l.take i) ++ ttextL (l.drop i) := by rw [← ttextL_append, List.take_append_drop]
  have := ttext_lenL l h
  rw [e, List.length_append] at this
  omega
end N
namespace N
open PySem L2
/-- digits(n) -/
def spDigits : Sp := fun vs H Q _ => ∃ n : Nat, vs = [.int (n : Int)] ∧ n < 10 ^ 39 ∧ GotL Q H (Bs (Vaarrm.decimal n))
section
variable {P : Program} {w : World} {K : PySem.W.Frag} {mg : Str → Option Value} {base : Heap}
theorem sc_digits : FnScope ["n", "backwards", "rest"] ["n"] (defScope sDigits) := ⟨rfl, rfl, rfl, by decide +kernel, rfl, by decide +kernel, by decide +kernel⟩
theorem ok_digits (T : Top1 K mg "digits" sDigits ["n"]) (c_ZERO : CI mg "ZERO" 48) (b_list : mg "list" = none) (b_reversed : mg "reversed" = none) : Def P w K mg base CX0 "digits" 1 ["n"] (spDigits) := by
  refine T.ok sc_digits (fun vs H Q E h => ?_) (fun f cdv A outer s H vs Q E hr h => ?_)
  · obtain ⟨n, rfl, _⟩ := h
    rfl
  obtain ⟨n, rfl, hn, q⟩ := h
  refine ⟨_, (pss_cons (ps_set (i := 1) sc_digits.nd rfl (Or.inl rfl) (pe_lst (pa_cons (pe_op op_add (pe_ci c_ZERO) (pe_op op_mod (pv 0) pe_int)) pa_nil))) (pss_cons (ps_set (i := 2) sc_digits.nd rfl (Or.inl rfl) (pe_op op_fdiv (pv 0) pe_int)) (pss_cons (ps_while PassesOwn.never (pt_cmpR op_gt (pv 2) pe_int (nomark _)) (pss_cons (ps_expr (pe_bm PySem.F.plainAttrs_list PySem.F.slot_list_append PySem.F.type_list_append mt_append (pv 1) (pa_cons (pe_op op_add (pe_ci c_ZERO) (pe_op op_mod (pv 2) pe_int)) pa_nil))) (pss_one (ps_set (i := 2) sc_digits.nd rfl (Or.inl rfl) (pe_op op_fdiv (pv 2) pe_int))))) (pss_one (ps_ret (pe_listRev rfl rfl b_list rfl b_reversed (pv 1))))))), ?_⟩
  have ten : (0 : Int) < 10 := by decide
  have tenS : CDiv (0 : Int) 10 := ⟨by decide, by decide⟩
  refine ⟨_, rfl, _, _, rfl, rfl, ten, _, _, rfl, rfl, by show 1 ≤ sizeLine; decide, fun l hl => ?_⟩
  refine ⟨_, rfl, _, _, rfl, rfl, tenS, ?_⟩
  refine ⟨fun m σ H1 => ∃ (k : Nat) (acc : List Nat), σ = [some (.int (n : Int)), some (.ref l), some (.int (m : Int))] ∧ Same H H1 ∧ H1 l = some (.lst (Bs acc)) ∧ acc ++ rr k m = (48 + n % 10) :: rr 39 (n / 10) ∧ m < 10 ^ k, ⟨n / 10, 39, [48 + n % 10], rfl, same_new hl _, upd_same, rfl, by omega⟩, ?_⟩
  rintro m σ H1 ⟨k, acc, rfl, e1, hl1, ha, hm⟩
  have hlen := congrArg List.length ha
  rw [List.length_append, List.length_cons] at hlen
  have h39 := rr_len 39 (n / 10)
  refine ⟨_, rfl, _, _, rfl, rfl, _, rfl, ?_⟩
  by_cases h0 : m = 0
  · subst h0
    rw [rr_zero, List.append_nil] at ha
    refine itF (by decide) ⟨_, rfl, l, _, rfl, SqL.of hl1, fun p hp => q p _ (e1.free hp) (e1.trans (same_new hp _)) ?_⟩
    rw [upd_same, Bs_reverse, ha, ← decimal_is]
  · cases k with
    | zero => exact absurd hm (by rw [Nat.pow_zero]; omega)
    | succ k =>
      have er : rr (k + 1) m = (48 + m % 10) :: rr k (m / 10) := by
        rw [show rr (k + 1) m = if m = 0 then [] else (48 + m % 10) :: rr k (m / 10) from rfl, if_neg h0]
      refine itT (by omega) ⟨fun σ' H' => ∃ m', m' < m ∧ _, fun σ' H' h => h, ?_⟩
      refine ⟨_, rfl, .inl ⟨rfl, _, SqL.of hl1⟩, _, rfl, _, _, rfl, rfl, ten, _, _, rfl, rfl, l, _, _, rfl, rfl, hl1, Nat.lt_of_le_of_lt (show _ ≤ 100 by rw [Bs_len]; omega) (by decide), ?_⟩
      refine ⟨_, rfl, _, _, rfl, rfl, tenS, ?_⟩
      refine ⟨m / 10, by omega, k, acc ++ [48 + m % 10], rfl, Same.mut e1 hl, ?_, ?_, ?_⟩
      · rw [upd_same, Bs_append]; rfl
      · rw [List.append_assoc, ← ha, er]; rfl
      · rw [Nat.pow_succ] at hm
        omega
end
end N
namespace N
open PySem L2
/-- number_text(n) -/
def spNumText : Sp := fun vs H Q _ => ∃ n : Int, vs = [.int n] ∧ (-1000000000000000000 ≤ n ∧ n ≤ 1000000000000000000) ∧ GotL Q H (Bs (Vaarrm.numText n))
section
variable {P : Program} {w : World} {K : PySem.W.Frag} {mg : Str → Option Value} {base : Heap}
theorem sc_number_text : FnScope ["n"] ["n"] (defScope sNumberText) := ⟨rfl, rfl, rfl, by decide +kernel, rfl, by decide +kernel, by decide +kernel⟩
theorem ok_number_text (T : Top1 K mg "number_text" sNumberText ["n"]) (c_LOW : CI mg "LOW" 95) (D_digits : Def P w K mg base CX0 "digits" 1 ["n"] (spDigits)) : Def P w K mg base CX0 "number_text" 2 ["n"] (spNumText) := by
  refine T.ok sc_number_text (fun vs H Q E h => ?_) (fun f cdv A outer s H vs Q E hr h => ?_)
  · obtain ⟨n, rfl, _⟩ := h
    rfl
  obtain ⟨n, rfl, hn, q⟩ := h
  refine ⟨_, (pss_cons (ps_if (pt_cmpR op_lt (pv 0) pe_int (nomark _)) (pss_one (ps_ret (pe_op op_cat (pe_lst (pa_cons (pe_ci c_LOW) pa_nil)) (pe_fn D_digits (hr.mono (by decide)) pass0 (pa_cons (pe_un un_neg (pv 0)) pa_nil))))) pss_nil) (pss_one (ps_ret (pe_fn D_digits (hr.mono (by decide)) pass0 (pa_cons (pv 0) pa_nil))))), ?_⟩
  refine ⟨_, rfl, _, _, rfl, rfl, _, rfl, ?_⟩
  unfold Vaarrm.numText at q
  by_cases h0 : n < 0
  · rw [if_pos h0] at q
    have en : -n = ((n.natAbs : Nat) : Int) := by omega
    refine itT h0 ⟨by show 1 ≤ sizeLine; decide, fun l hl => ⟨_, rfl, _, rfl, ?_⟩⟩
    refine ⟨n.natAbs, by show [V.int (-n)] = _; rw [en], by omega, fun p H' hp e' hp' => ?_⟩
    have hl1 := decimal_len n.natAbs
    refine ⟨l, p, _, _, rfl, rfl, e' _ _ upd_same, hp', Nat.le_trans (show _ ≤ 100 by rw [Bs_len]; show 1 + _ ≤ 100; omega) (by decide), fun r hr => ?_⟩
    have e1 := (same_new hl (.lst [.int 95])).trans e'
    exact q r _ (e1.free hr) (e1.trans (same_new hr _)) upd_same
  · rw [if_neg h0] at q
    have en : n = ((n.toNat : Nat) : Int) := by omega
    exact itF h0 ⟨_, rfl, n.toNat, by show [V.int n] = _; rw [← en], by omega, q⟩
end
end N
namespace N
open PySem L2
/-- extents_text(extents) -/
def spExtText (K : PySem.W.Frag) : Sp := fun vs H Q _ => ∃ (e : Addr) (s : List Nat), vs = [.ref e] ∧ SqL K H e (Bs s) ∧ s.length ≤ 1000 ∧ (∀ n ∈ s, n ≤ 1000000000000000000) ∧ GotL Q H (Bs (Vaarrm.spaced (s.map Vaarrm.decimal)))
section
variable {P : Program} {w : World} {K : PySem.W.Frag} {mg : Str → Option Value} {base : Heap}
theorem sc_extents_text : FnScope ["extents", "row", "k", "extent"] ["extents"] (defScope sExtentsText) := ⟨rfl, rfl, rfl, by decide +kernel, rfl, by decide +kernel, by decide +kernel⟩
theorem ok_extents_text (T : Top1 K mg "extents_text" sExtentsText ["extents"]) (c_BLANK : CI mg "BLANK" 32) (b_enumerate : mg "enumerate" = none) (D_digits : Def P w K mg base CX0 "digits" 1 ["n"] (spDigits)) : Def P w K mg base CX0 "extents_text" 2 ["extents"] (spExtText K) := by
  refine T.ok sc_extents_text (fun vs H Q E h => ?_) (fun f cdv A outer s H vs Q E hr h => ?_)
  · obtain ⟨e, s, rfl, _⟩ := h
    rfl
  obtain ⟨e, s, rfl, hS, hz, hb, q⟩ := h
  refine ⟨_, (pss_cons (ps_set (i := 1) sc_extents_text.nd rfl (Or.inl rfl) (pe_lst pa_nil)) (pss_cons (ps_for PassesOwn.never rfl (pi_enum rfl b_enumerate (pa_cons (pv 0) pa_nil)) (pg_tup rfl (pgs_cons (pg_name (i := 2) sc_extents_text.nd rfl (Or.inl rfl)) (pgs_cons (pg_name (i := 3) sc_extents_text.nd rfl (Or.inl rfl)) pgs_nil))) (pss_cons (ps_if (pt_cmpR op_gt (pv 2) pe_int (nomark _)) (pss_one (ps_expr (pe_bm PySem.F.plainAttrs_list PySem.F.slot_list_append PySem.F.type_list_append mt_append (pv 1) (pa_cons (pe_ci c_BLANK) pa_nil)))) pss_nil) (pss_one (ps_expr (pe_bm PySem.F.plainAttrs_list PySem.F.slot_list_extend PySem.F.type_list_extend mt_extend (pv 1) (pa_cons (pe_fn D_digits (hr.mono (by decide)) pass0 (pa_cons (pv 3) pa_nil)) pa_nil)))))) (pss_one (ps_ret (pv 1))))), ?_⟩
  refine ⟨Nat.zero_le _, fun l hl => ?_⟩
  have e1 : Same H (upd H l (.lst [])) := same_new hl _
  refine ⟨_, rfl, e, _, rfl, e1.seq hS, ?_⟩
  refine for_it (walk_enum (K := K) (a := e) (xs := Bs s)) (fun i σ H' => ∃ a b, σ = [some (.ref e), some (.ref l), a, b] ∧ Same H H' ∧ H' l = some (.lst (Bs (Vaarrm.spaced ((s.take i).map Vaarrm.decimal))))) ⟨none, none, rfl, e1, upd_same⟩ (fun i σ H' _ ⟨_, _, _, e2, _⟩ => e2.seq hS) ?_ ?_
  · rintro i x σ H2 H3 hi ⟨a, b, rfl, e2, hl2⟩ ⟨T, x1, y1, rfl, hT, rfl, hx1, hy1⟩
    cases hx1
    obtain ⟨n, hn, rfl⟩ := Bs_get hy1
    have e3 := e2.trans (same_new hT (.tup [.int ((i : Nat) : Int), .int (n : Int)]))
    have hl3 : (upd H2 T (.tup [.int ((i : Nat) : Int), .int (n : Int)])) l = some (.lst (Bs (Vaarrm.spaced ((s.take i).map Vaarrm.decimal)))) := same_new hT _ _ _ hl2
    have hT3 : (upd H2 T (.tup [.int ((i : Nat) : Int), .int (n : Int)])) T = some (.tup [.int ((i : Nat) : Int), .int (n : Int)]) := upd_same
    have hlen := spaced_len (s.take i)
    have hti : (s.take i).length = i := by rw [List.length_take]; rw [Bs_len] at hi; omega
    have hdl := decimal_len n
    rw [Bs_len] at hi
    generalize upd H2 T (.tup [.int ((i : Nat) : Int), .int (n : Int)]) = H3 at *
    refine ⟨T, _, rfl, SqT.of hT3, rfl, _, _, rfl, _, _, rfl, rfl, _, rfl, _, _, rfl, rfl, _, rfl, ?_⟩
    have hn' : n < 10 ^ 39 := by
      have := hb n (List.mem_of_getElem? hn)
      omega
    have et : (s.take (i + 1)).map Vaarrm.decimal = (s.take i).map Vaarrm.decimal ++ [Vaarrm.decimal n] := by
      rw [take_more hn, List.map_append]
      rfl
    have en : ((s.take i).map Vaarrm.decimal).length = i := by rw [List.length_map, hti]
    by_cases h0 : i = 0
    · refine itF (by omega) ⟨_, rfl, .inl ⟨rfl, _, SqL.of hl3⟩, _, rfl, n, rfl, hn', fun p H4 hp e4 hp4 => ?_⟩
      refine ⟨l, p, _, _, rfl, rfl, e4 _ _ hl3, hp4, Nat.le_trans (show _ ≤ 100000 by rw [Bs_len, Bs_len]; omega) (by decide), ?_⟩
      refine ⟨_, _, rfl, Same.mut (e3.trans e4) hl, ?_⟩
      rw [upd_same, et, spaced_snoc, if_pos (by rw [en, h0])]
      subst h0
      rfl
    · refine itT (by omega) ⟨_, rfl, .inl ⟨rfl, _, SqL.of hl3⟩, l, _, _, rfl, rfl, hl3, Nat.lt_of_le_of_lt (show _ ≤ 100000 by rw [Bs_len]; omega) (by decide), ?_⟩
      have e4 : Same H (upd H3 l (.lst (Bs (Vaarrm.spaced ((s.take i).map Vaarrm.decimal)) ++ [.int 32]))) := Same.mut e3 hl
      have hl4 : (upd H3 l (.lst (Bs (Vaarrm.spaced ((s.take i).map Vaarrm.decimal)) ++ [.int 32]))) l = some (.lst (Bs (Vaarrm.spaced ((s.take i).map Vaarrm.decimal) ++ [32]))) := by
        rw [upd_same, Bs_append]
        rfl
      generalize upd H3 l (.lst (Bs (Vaarrm.spaced ((s.take i).map Vaarrm.decimal)) ++ [.int 32])) = H4 at *
      refine ⟨_, rfl, .inl ⟨rfl, _, SqL.of hl4⟩, _, rfl, n, rfl, hn', fun p H5 hp e5 hp5 => ?_⟩
      refine ⟨l, p, _, _, rfl, rfl, e5 _ _ hl4, hp5, Nat.le_trans (show _ ≤ 100000 by rw [Bs_len, Bs_len, List.length_append, List.length_singleton]; omega) (by decide), ?_⟩
      refine ⟨_, _, rfl, Same.mut (e4.trans e5) hl, ?_⟩
      rw [upd_same, et, spaced_snoc, if_neg (by rw [en]; exact h0), ← Bs_append, List.append_assoc]
      rfl
  · rintro σ H' ⟨a, b, rfl, e2, hl2⟩
    rw [Bs_len, List.take_length] at hl2
    exact ⟨_, rfl, q l _ hl e2 hl2⟩
end
end N
namespace N
open PySem L2
/-- value_text(u), less than d deep -/
def spValText (C : Addr) (d : Nat) : Sp := fun vs H Q _ => ∃ (u : V) (v : U), vs = [u] ∧ Rep C H u v ∧ tdepth v < d ∧ tshapes v = true ∧ tsize v ≤ 10000 ∧ GotL Q H (Bs (ttext v))
section
variable {P : Program} {w : World} {K : PySem.W.Frag} {mg : Str → Option Value} {base : Heap} {CArr : Addr}
theorem sc_value_text : FnScope ["u", "row", "member"] ["u"] (defScope sValueText) := ⟨rfl, rfl, rfl, by decide +kernel, rfl, by decide +kernel, by decide +kernel⟩
theorem vt_all (T : Top1 K mg "value_text" sValueText ["u"]) (c_CLOSING : CI mg "CLOSING" 93) (c_BLANK : CI mg "BLANK" 32) (c_COLON : CI mg "COLON" 58) (c_OPENING : CI mg "OPENING" 91) (F_Arr : ClF K CArr ["extents", "members"]) (D_extents_text : Def P w K mg base CX0 "extents_text" 2 ["extents"] (spExtText K)) (D_is_number : Def P w K mg base CX0 "is_number" 1 ["u"] (spIsNum CArr)) (D_number_text : Def P w K mg base CX0 "number_text" 2 ["n"] (spNumText)) : ∀ d, Def P w K mg base CX0 "value_text" (d + 3) ["u"] (spValText CArr d)
  | 0 => by
    refine T.ok sc_value_text (fun vs H Q E h => ?_) (fun f cdv A outer s H vs Q E hr h => ?_)
    · obtain ⟨u, v, rfl, _⟩ := h
      rfl
    · obtain ⟨u, v, rfl, hu, hd, _⟩ := h
      exact absurd hd (by omega)
  | d + 1 => by
    have D_value_text := vt_all T c_CLOSING c_BLANK c_COLON c_OPENING F_Arr D_extents_text D_is_number D_number_text d
    refine T.ok sc_value_text (fun vs H Q E h => ?_) (fun f cdv A outer s H vs Q E hr h => ?_)
    · obtain ⟨u, v, rfl, _⟩ := h
      rfl
    obtain ⟨u, v, rfl, hu, hd, hs, hz, q⟩ := h
    refine ⟨_, (pss_cons (ps_if (pt_val (pe_fn D_is_number (hr.mono (by omega)) pass0 (pa_cons (pv 0) pa_nil))) (pss_one (ps_ret (pe_fn D_number_text (hr.mono (by omega)) pass0 (pa_cons (pv 0) pa_nil)))) pss_nil) (pss_cons (ps_set (i := 1) sc_value_text.nd rfl (Or.inl rfl) (pe_lst (pa_cons (pe_ci c_OPENING) pa_nil))) (pss_cons (ps_expr (pe_bm PySem.F.plainAttrs_list PySem.F.slot_list_extend PySem.F.type_list_extend mt_extend (pv 1) (pa_cons (pe_fn D_extents_text (hr.mono (by omega)) pass0 (pa_cons (pe_fld (pv 0) rfl) pa_nil)) pa_nil))) (pss_cons (ps_expr (pe_bm PySem.F.plainAttrs_list PySem.F.slot_list_append PySem.F.type_list_append mt_append (pv 1) (pa_cons (pe_ci c_COLON) pa_nil))) (pss_cons (ps_for PassesOwn.never rfl (pi_list (pe_fld (pv 0) rfl)) (pg_name (i := 2) sc_value_text.nd rfl (Or.inl rfl)) (pss_cons (ps_expr (pe_bm PySem.F.plainAttrs_list PySem.F.slot_list_append PySem.F.type_list_append mt_append (pv 1) (pa_cons (pe_ci c_BLANK) pa_nil))) (pss_one (ps_expr (pe_bm PySem.F.plainAttrs_list PySem.F.slot_list_extend PySem.F.type_list_extend mt_extend (pv 1) (pa_cons (pe_fn D_value_text (hr.mono (by omega)) pass0 (pa_cons (pv 2) pa_nil)) pa_nil)))))) (pss_cons (ps_expr (pe_bm PySem.F.plainAttrs_list PySem.F.slot_list_append PySem.F.type_list_append mt_append (pv 1) (pa_cons (pe_ci c_CLOSING) pa_nil))) (pss_one (ps_ret (pv 1))))))))), ?_⟩
    refine ⟨_, rfl, u, v, rfl, hu, _, rfl, ?_⟩
    cases v with
    | num n =>
      obtain ⟨rfl, hn⟩ := hu.of_num
      exact iteT ⟨_, rfl, n, rfl, hn, q⟩
    | arr s l =>
      obtain ⟨x, dx, e, m, us, rfl, hx, he, hm, hb, hl⟩ := hu.of_arr
      have hs' : (Vaarrm.shapeOk s && tshapesL l) = true := hs
      rw [Bool.and_eq_true] at hs'
      have hd' : 1 + tdepthL l < d + 1 := hd
      have hz' : 1 + tsizeL l ≤ 10000 := hz
      have h4 : s.length ≤ 4 := by
        have := hs'.1
        unfold Vaarrm.shapeOk at this
        rw [Bool.and_eq_true] at this
        exact of_decide_eq_true this.1
      have hsl := spaced_len s
      have hlu : us.length = l.length := hl.length
      have gE := F_Arr.no "extents" (by simp)
      have gM := F_Arr.no "members" (by simp)
      refine iteF ⟨by show 1 ≤ sizeLine; decide, fun r hr0 => ?_⟩
      have e1 : Same H (upd H r (.lst [.int 91])) := same_new hr0 _
      have r1 : (upd H r (.lst [.int 91])) r = some (.lst (Bs [91])) := upd_same
      generalize upd H r (.lst [.int 91]) = H1 at *
      refine ⟨_, rfl, .inl ⟨rfl, _, SqL.of r1⟩, _, rfl, x, CArr, dx, _, _, rfl, e1 _ _ hx, F_Arr.cl, gE, arrF_ext _ _, ?_⟩
      refine ⟨e, s, rfl, SqL.of (e1 _ _ he), by omega, hb, fun p H2 hp e2 hp2 => ?_⟩
      refine ⟨r, p, _, _, rfl, rfl, e2 _ _ r1, hp2, Nat.le_trans (show _ ≤ 100000 by rw [Bs_len, Bs_len]; show 1 + _ ≤ 100000; omega) (by decide), ?_⟩
      have e3 : Same H (upd H2 r (.lst (Bs [91] ++ Bs (Vaarrm.spaced (s.map Vaarrm.decimal))))) := Same.mut (e1.trans e2) hr0
      have r3 : (upd H2 r (.lst (Bs [91] ++ Bs (Vaarrm.spaced (s.map Vaarrm.decimal))))) r = some (.lst (Bs (91 :: Vaarrm.spaced (s.map Vaarrm.decimal)))) := by
        rw [upd_same]; rfl
      generalize upd H2 r (.lst (Bs [91] ++ Bs (Vaarrm.spaced (s.map Vaarrm.decimal)))) = H3 at *
      refine ⟨_, rfl, .inl ⟨rfl, _, SqL.of r3⟩, r, _, _, rfl, rfl, r3, Nat.lt_of_le_of_lt (show _ ≤ 100000 by rw [Bs_len, List.length_cons]; omega) (by decide), ?_⟩
      have e4 := Same.mut (p := r) (o := .lst (Bs (91 :: Vaarrm.spaced (s.map Vaarrm.decimal)) ++ [.int 58])) e3 hr0
      have r4 : (upd H3 r (.lst (Bs (91 :: Vaarrm.spaced (s.map Vaarrm.decimal)) ++ [.int 58]))) r = some (.lst (Bs (91 :: (Vaarrm.spaced (s.map Vaarrm.decimal) ++ [58])))) := by
        rw [upd_same, ← List.cons_append, Bs_append]; rfl
      generalize upd H3 r (.lst (Bs (91 :: Vaarrm.spaced (s.map Vaarrm.decimal)) ++ [.int 58])) = H4 at *
      refine ⟨_, rfl, x, CArr, dx, _, _, rfl, e4 _ _ hx, F_Arr.cl, gM, arrF_mem _ _, m, rfl, ⟨_, SqL.of (e4 _ _ hm)⟩, ?_⟩
      refine for_list (K := K) (a := m) (xs := us) (fun i σ H' => ∃ b, σ = [some (.ref x), some (.ref r), b] ∧ Same H H' ∧ H' r = some (.lst (Bs (91 :: (Vaarrm.spaced (s.map Vaarrm.decimal) ++ (58 :: ttextL (l.take i))))))) ⟨none, rfl, e4, r4⟩ (fun i σ H' _ ⟨_, _, e5, _⟩ => SqL.of (e5 _ _ hm)) ?_ ?_
      · rintro i y σ H5 hi ⟨b, rfl, e5, r5⟩
        obtain ⟨vy, hvy, hry⟩ := hl.get hi
        have hT := ttextL_take_len hs'.2 i
        have hT2 := ttext_len vy (tshapesL_get hs'.2 hvy)
        have hT3 := tsizeL_get hvy
        refine ⟨_, rfl, .inl ⟨rfl, _, SqL.of r5⟩, r, _, _, rfl, rfl, r5, Nat.lt_of_le_of_lt (show _ ≤ 10000000 by rw [Bs_len, List.length_cons, List.length_append, List.length_cons]; omega) (by decide), ?_⟩
        have e6 := Same.mut (p := r) (o := .lst (Bs (91 :: (Vaarrm.spaced (s.map Vaarrm.decimal) ++ (58 :: ttextL (l.take i)))) ++ [.int 32])) e5 hr0
        have r6 : (upd H5 r (.lst (Bs (91 :: (Vaarrm.spaced (s.map Vaarrm.decimal) ++ (58 :: ttextL (l.take i)))) ++ [.int 32]))) r = some (.lst (Bs (91 :: (Vaarrm.spaced (s.map Vaarrm.decimal) ++ (58 :: (ttextL (l.take i) ++ [32])))))) := by
          rw [upd_same]
          unfold Bs
          simp
        generalize upd H5 r (.lst (Bs (91 :: (Vaarrm.spaced (s.map Vaarrm.decimal) ++ (58 :: ttextL (l.take i)))) ++ [.int 32])) = H6 at *
        refine ⟨_, rfl, .inl ⟨rfl, _, SqL.of r6⟩, _, rfl, y, vy, rfl, hry.mono e6, ?_, tshapesL_get hs'.2 hvy, by omega, fun p H7 hp e7 hp7 => ?_⟩
        · have := tdepthL_get hvy
          omega
        refine ⟨r, p, _, _, rfl, rfl, e7 _ _ r6, hp7, Nat.le_trans (show _ ≤ 10000000 by rw [Bs_len, Bs_len, List.length_cons, List.length_append, List.length_cons, List.length_append, List.length_singleton]; omega) (by decide), ?_⟩
        refine ⟨some y, rfl, Same.mut (e6.trans e7) hr0, ?_⟩
        rw [upd_same, take_more hvy, ttextL_append, ← Bs_append]
        congr 3
        simp [ttextL]
      · rintro σ H5 ⟨b, rfl, e5, r5⟩
        rw [hlu, List.take_length] at r5
        have hT := ttext_lenL l hs'.2
        refine ⟨_, rfl, .inl ⟨rfl, _, SqL.of r5⟩, r, _, _, rfl, rfl, r5, Nat.lt_of_le_of_lt (show _ ≤ 10000000 by rw [Bs_len, List.length_cons, List.length_append, List.length_cons]; omega) (by decide), ?_⟩
        refine ⟨_, rfl, q r _ hr0 (Same.mut e5 hr0) ?_⟩
        rw [upd_same]
        have ee : ttext (.arr s l) = 91 :: (Vaarrm.spaced (s.map Vaarrm.decimal) ++ (58 :: (ttextL l ++ [93]))) := rfl
        rw [ee]
        unfold Bs
        simp
theorem ok_value_text (T : Top1 K mg "value_text" sValueText ["u"]) (c_CLOSING : CI mg "CLOSING" 93) (c_BLANK : CI mg "BLANK" 32) (c_COLON : CI mg "COLON" 58) (c_OPENING : CI mg "OPENING" 91) (F_Arr : ClF K CArr ["extents", "members"]) (D_extents_text : Def P w K mg base CX0 "extents_text" 2 ["extents"] (spExtText K)) (D_is_number : Def P w K mg base CX0 "is_number" 1 ["u"] (spIsNum CArr)) (D_number_text : Def P w K mg base CX0 "number_text" 2 ["n"] (spNumText)) : Def P w K mg base CX0 "value_text" 12 ["u"] (spValText CArr 9) := vt_all T c_CLOSING c_BLANK c_COLON c_OPENING F_Arr D_extents_text D_is_number D_number_text 9
end
end N
namespace N
open PySem L2
/-- value_answer(u) -/
def spValAns (C CR : Addr) : Sp := fun vs H Q E => ∃ (u : V) (v : U), vs = [u] ∧ Rep C H u v ∧ tsize v ≤ 1000000 ∧ (outOk v = true → GotL Q H (.int 0 :: Bs (ttext v))) ∧ (outOk v = false → Fails CR E H (-5))
section
variable {P : Program} {w : World} {K : PySem.W.Frag} {mg : Str → Option Value} {base : Heap} {CArr CRef fRef : Addr}
theorem sc_value_answer : FnScope ["u"] ["u"] (defScope sValueAnswer) := ⟨rfl, rfl, rfl, by decide +kernel, rfl, by decide +kernel, by decide +kernel⟩
theorem ok_value_answer (T : Top1 K mg "value_answer" sValueAnswer ["u"]) (D_value_text : Def P w K mg base CX0 "value_text" 12 ["u"] (spValText CArr 9)) (D_come_out : Def P w K mg base (L2.CX P w) "come_out" 4 ["u"] (spComeOut CArr CRef)) : Def P w K mg base (L2.CX P w) "value_answer" 13 ["u"] (spValAns CArr CRef) := by
  refine T.okX sc_value_answer (fun vs H Q E h => ?_) (fun f cdv A outer s H vs Q E hr h => ?_)
  · obtain ⟨u, v, rfl, _⟩ := h
    rfl
  obtain ⟨u, v, rfl, hu, hz, q, qf⟩ := h
  refine ⟨_, (pss_one (ps_ret (pe_op op_cat (pe_lst (pa_cons pe_int pa_nil)) (pe_fn D_value_text (hr.mono (by decide)) pass0 (pa_cons (pe_fn D_come_out (hr.mono (by decide)) (passes_call (takes_of rfl rfl rfl rfl) (fun _ _ _ _ h => h)) (pa_cons (pv 0) pa_nil)) pa_nil))))), ?_⟩
  refine ⟨by show 1 ≤ sizeLine; decide, fun l hl => ?_⟩
  have e1 : Same H (upd H l (.lst [.int 0])) := same_new hl _
  refine ⟨_, rfl, u, v, rfl, hu.mono e1, hz, fun ho H2 e2 => ?_, fun ho => (qf ho).back e1⟩
  have ho' : (tlim v && tshapes v) = true := ho
  rw [Bool.and_eq_true] at ho'
  have hlim := of_decide_eq_true (show decide (tsize v ≤ 512 ∧ tdepth v ≤ 8) = true from ho'.1)
  refine ⟨u, v, rfl, (hu.mono e1).mono e2, by omega, ho'.2, by omega, fun p H3 hp e3 hp3 => ?_⟩
  have hT := ttext_len v ho'.2
  refine ⟨l, p, _, _, rfl, rfl, e3 _ _ (e2 _ _ upd_same), hp3, Nat.le_trans (show _ ≤ 1000000 by rw [Bs_len]; show 1 + _ ≤ 1000000; omega) (by decide), fun r hr0 => ?_⟩
  have e4 := (e1.trans e2).trans e3
  exact q ho r _ (e4.free hr0) (e4.trans (same_new hr0 _)) upd_same
end
end N
namespace N
open PySem L2
/-! ### the desk: one text, what is due -/
/-- a def of one text that answers the list told by f -/
def spOne (K : PySem.W.Frag) (f : List Nat → List Int) : Sp := fun vs H Q _ => ∃ (a : Addr) (t : List Nat), vs = [.ref a] ∧ SqL K H a (Bs t) ∧ t.length ≤ 20000 ∧ ∀ (H' : Hp) (p : Addr), H' p = some (.lst ((f t).map V.int)) → Q (.ref p) H'
/-- what is due of one text -/
def due1 (f : Nat) (t : List Nat) : List Int := VaarrmNeutral.encode (Vaarrm.answer (.one f t))
theorem due1_ok {f : Nat} {t : List Nat} {v : Vaarrm.V} (h : Vaarrm.read t = .ok v) : due1 f t = VaarrmNeutral.encode (Vaarrm.oneAnswer f v) := by
  show VaarrmNeutral.encode (match Vaarrm.read t with | .error k => Vaarrm.no k | .ok v => Vaarrm.oneAnswer f v) = _
  rw [h]
theorem due1_no {f : Nat} {t : List Nat} {n : Int} (h : Vaarrm.read t = .error n) : due1 f t = [n] := by
  show VaarrmNeutral.encode (match Vaarrm.read t with | .error k => Vaarrm.no k | .ok v => Vaarrm.oneAnswer f v) = _
  rw [h]
  rfl
/-- what is due where a value or a refusal comes out -/
def dueG (r : Except Int Vaarrm.V) : List Int := VaarrmNeutral.encode (Vaarrm.given r)
theorem dueG_no (n : Int) : dueG (.error n) = [n] := rfl
/-- what is due of two texts -/
def due2 (f : Nat) (t u : List Nat) : List Int := VaarrmNeutral.encode (Vaarrm.answer (.two f t u))
/-- a def of two texts that answers the list told by f -/
def spTwo (K : PySem.W.Frag) (f : List Nat → List Nat → List Int) : Sp := fun vs H Q _ => ∃ (a b : Addr) (t u : List Nat), vs = [.ref a, .ref b] ∧ SqL K H a (Bs t) ∧ SqL K H b (Bs u) ∧ t.length ≤ 20000 ∧ u.length ≤ 20000 ∧ ∀ (H' : Hp) (p : Addr), H' p = some (.lst ((f t u).map V.int)) → Q (.ref p) H'
theorem due2_is (f : Nat) (t u : List Nat) : due2 f t u = VaarrmNeutral.encode (match Vaarrm.read t with | .error k => Vaarrm.no k | .ok v => match Vaarrm.read u with | .error k => Vaarrm.no k | .ok w => Vaarrm.twoAnswer f v w) := rfl
theorem due2_ok {f : Nat} {t u : List Nat} {v w : Vaarrm.V} (h : Vaarrm.read t = .ok v) (h2 : Vaarrm.read u = .ok w) : due2 f t u = VaarrmNeutral.encode (Vaarrm.twoAnswer f v w) := by rw [due2_is, h, h2]
theorem due2_no1 {f : Nat} {t u : List Nat} {n : Int} (h : Vaarrm.read t = .error n) : due2 f t u = [n] := by
  rw [due2_is, h]
  rfl
theorem due2_no2 {f : Nat} {t u : List Nat} {v : Vaarrm.V} {n : Int} (h : Vaarrm.read t = .ok v) (h2 : Vaarrm.read u = .error n) : due2 f t u = [n] := by
  rw [due2_is, h, h2]
  rfl
/-- a def of a number and a text -/
def spKOne (K : PySem.W.Frag) (f : Int → List Nat → List Int) : Sp := fun vs H Q _ => ∃ (k : Int) (a : Addr) (t : List Nat), vs = [.int k, .ref a] ∧ -1000000000000000000 ≤ k ∧ k ≤ 1000000000000000000 ∧ SqL K H a (Bs t) ∧ t.length ≤ 20000 ∧ ∀ (H' : Hp) (p : Addr), H' p = some (.lst ((f k t).map V.int)) → Q (.ref p) H'
/-- a def of a text and numbers -/
def spOneL (K : PySem.W.Frag) (f : List Nat → List Int → List Int) : Sp := fun vs H Q _ => ∃ (a b : Addr) (t : List Nat) (ns : List Int), vs = [.ref a, .ref b] ∧ SqL K H a (Bs t) ∧ SqL K H b (ns.map V.int) ∧ t.length ≤ 20000 ∧ ns.length ≤ 2000 ∧ (∀ n ∈ ns, -1000000000000000000 ≤ n ∧ n ≤ 1000000000000000000) ∧ ∀ (H' : Hp) (p : Addr), H' p = some (.lst ((f t ns).map V.int)) → Q (.ref p) H'
/-- a def of a text, numbers and a text -/
def spOneLOne (K : PySem.W.Frag) (f : List Nat → List Int → List Nat → List Int) : Sp := fun vs H Q _ => ∃ (a b c : Addr) (t : List Nat) (ns : List Int) (u : List Nat), vs = [.ref a, .ref b, .ref c] ∧ SqL K H a (Bs t) ∧ SqL K H b (ns.map V.int) ∧ SqL K H c (Bs u) ∧ t.length ≤ 20000 ∧ ns.length ≤ 2000 ∧ (∀ n ∈ ns, -1000000000000000000 ≤ n ∧ n ≤ 1000000000000000000) ∧ u.length ≤ 20000 ∧ ∀ (H' : Hp) (p : Addr), H' p = some (.lst ((f t ns u).map V.int)) → Q (.ref p) H'
/-- a def of a number and two texts -/
def spKTwo (K : PySem.W.Frag) (f : Int → List Nat → List Nat → List Int) : Sp := fun vs H Q _ => ∃ (k : Int) (a b : Addr) (t u : List Nat), vs = [.int k, .ref a, .ref b] ∧ -1000000000000000000 ≤ k ∧ k ≤ 1000000000000000000 ∧ SqL K H a (Bs t) ∧ SqL K H b (Bs u) ∧ t.length ≤ 20000 ∧ u.length ≤ 20000 ∧ ∀ (H' : Hp) (p : Addr), H' p = some (.lst ((f k t u).map V.int)) → Q (.ref p) H'
/-- a def of a number and numbers -/
def spKL (K : PySem.W.Frag) (f : Int → List Int → List Int) : Sp := fun vs H Q _ => ∃ (k : Int) (b : Addr) (ns : List Int), vs = [.int k, .ref b] ∧ -1000000000000000000 ≤ k ∧ k ≤ 1000000000000000000 ∧ SqL K H b (ns.map V.int) ∧ ns.length ≤ 2000 ∧ (∀ n ∈ ns, -1000000000000000000 ≤ n ∧ n ≤ 1000000000000000000) ∧ ∀ (H' : Hp) (p : Addr), H' p = some (.lst ((f k ns).map V.int)) → Q (.ref p) H'
/-- what is due of a call -/
def dueC (c : Vaarrm.Call) : List Int := VaarrmNeutral.encode (Vaarrm.answer c)
def dueE (k : Int) (t : List Nat) : List Int := dueC (.each k t)
def dueP1 (k : Int) (t : List Nat) : List Int := dueC (.pervade1 k t)
def dueP2 (k : Int) (t u : List Nat) : List Int := dueC (.pervade k t u)
def duePick (t : List Nat) (p : List Int) : List Int := dueC (.pick t p)
def dueRep (t : List Nat) (p : List Int) (u : List Nat) : List Int := dueC (.replace t p u)
def duePack (t : List Nat) (l : List Int) : List Int := dueC (.pack t l)
def dueFlat (d : Int) (t : List Nat) : List Int := dueC (.flat d t)
def dueUn (d : Int) (l : List Int) : List Int := dueC (.unflat d l)
end N
namespace N
open PySem L2
theorem dueG_ok {v : U} (h : outOk v = true) : dueG (.ok v) = 0 :: (ttext v).map fun (n : Nat) => (n : Int) := by
  have h' : (tlim v && tshapes v) = true := h
  rw [Bool.and_eq_true] at h'
  have hlim := of_decide_eq_true (show decide (tsize v ≤ 512 ∧ tdepth v ≤ 8) = true from h'.1)
  show VaarrmNeutral.encode (if Vaarrm.goodShapes 12 v = true ∧ Vaarrm.within 12 v = true then Vaarrm.told (Vaarrm.ints (Vaarrm.textOf 12 v)) else Vaarrm.no (-5)) = _
  rw [shapes_is v 12 (by omega), within_is v 12 (.inr (by decide)), if_pos ⟨h'.2, h'.1⟩, text_is v 12 (by omega)]
  rfl
theorem dueG_lim {v : U} (h : outOk v = false) : dueG (.ok v) = [-5] := by
  have h' : (tlim v && tshapes v) = false := h
  show VaarrmNeutral.encode (if Vaarrm.goodShapes 12 v = true ∧ Vaarrm.within 12 v = true then Vaarrm.told (Vaarrm.ints (Vaarrm.textOf 12 v)) else Vaarrm.no (-5)) = _
  rw [within_is v 12 (.inr (by decide)), if_neg]
  · rfl
  · rintro ⟨a, b⟩
    have hlim := of_decide_eq_true (show decide (tsize v ≤ 512 ∧ tdepth v ≤ 8) = true from b)
    rw [shapes_is v 12 (by omega)] at a
    rw [a, b] at h'
    cases h'
theorem dueG_list {v : U} (h : outOk v = true) : (dueG (.ok v)).map V.int = .int 0 :: Bs (ttext v) := by
  rw [dueG_ok h, List.map_cons, Bs_map]
end N
namespace N
open PySem L2
/-- runs_of(members, sums) -/
def spRunsOf (K : PySem.W.Frag) (C : Addr) : Sp := fun vs H Q _ => ∃ (Hf : Hp) (m b : Addr) (us : List V) (l : List U) (ss : List Nat), vs = [.ref m, .ref b] ∧ Same Hf H ∧ SqL K H m us ∧ Reps C Hf us l ∧ SqL K H b (Bs ss) ∧ l.length ≤ 100000 ∧ ss.length ≤ 100000 ∧ 0 < ss.length ∧ up ss ∧ GotN C Q H Hf (runsBy ss l)
section
variable {P : Program} {w : World} {K : PySem.W.Frag} {mg : Str → Option Value} {base : Heap} {CArr : Addr}
theorem sc_runs_of : FnScope ["members", "sums", "k"] ["members", "sums"] (defScope sRunsOf) := ⟨rfl, rfl, rfl, by decide +kernel, rfl, by decide +kernel, by decide +kernel⟩
theorem ok_runs_of (T : Top1 K mg "runs_of" sRunsOf ["members", "sums"]) (b_len : mg "len" = none) (b_range : mg "range" = none) (D_vector : Def P w K mg base CX0 "vector" 3 ["members"] (spVector CArr)) : Def P w K mg base CX0 "runs_of" 4 ["members", "sums"] (spRunsOf K CArr) := by
  refine T.ok sc_runs_of (fun vs H Q E h => ?_) (fun f cdv A outer s H vs Q E hr h => ?_)
  · obtain ⟨Hf, m, b, us, l, ss, rfl, _⟩ := h
    rfl
  obtain ⟨Hf, m, b, us, l, ss, rfl, hs, hm, hl, hb, hz1, hz2, hpos, hup, q⟩ := h
  refine ⟨_, (pss_one (ps_ret (pe_lc (own := [("k", 2)]) (g := gName 2) (tt := tYes) (te := tCall (spVector CArr) [] E0 (tCons (tSl (rSlL K) (tVar 0) (tPart (tOp (rIxL K) (tVar 1) (tVar 2))) (tPart (tOp (rIxL K) (tVar 1) (tOp (rI0 fun i j => V.int (i + j)) (tVar 2) (tC (V.int 1)))))) tNil)) rfl sc_runs_of.nd (pi_range1 rfl b_range (pa_cons (pe_op op_sub (pe_callB call_len_seq (by rfl) b_len (by decide +kernel) (pa_cons (pv 1) pa_nil)) pe_int) pa_nil)) (blkOk_by (own := [("k", 2)]) (N := ["members", "sums", "k"]) (sc := defScope sRunsOf) (by decide +kernel)) (fun _ _ _ _ _ => (pg_name (i := 2) sc_runs_of.nd rfl (Or.inl rfl))) (fun _ _ _ _ _ => pts_nil) (fun _ _ _ _ _ => (pe_fn D_vector (hr.mono (by decide)) pass0 (pa_cons (pe_slice sl_list (pv 0) (po_some (pe_ix ix_list (pv 1) (pv 2) (fun _ _ => rfl))) (po_some (pe_ix ix_list (pv 1) (pe_op op_add (pv 2) pe_int) (fun _ _ => rfl)))) pa_nil)))))), ?_⟩
  refine ⟨_, rfl, b, _, rfl, .inl hb, _, _, rfl, rfl, _, rfl, by rw [Bs_len]; omega, by rw [Bs_len]; omega, fun D hD => ?_⟩
  rw [Bs_len]
  have hn : (((ss.length : Nat) : Int) - 1).toNat = ss.length - 1 := by omega
  have fD : Hf D = none := hs.free hD
  have hrl := runsBy_len ss l
  refine lc_range (lo := 0) (n := (((ss.length : Nat) : Int) - 1).toNat) (fun i H3 => ∃ Hf' acc, Grow H H3 Hf Hf' ∧ H3 D = some (.lst acc) ∧ Hf' D = none ∧ Reps CArr Hf' acc ((runsBy ss l).take i)) ⟨Hf, [], Grow.of hs (same_new hD _), upd_same, fD, .nil⟩ ?_ ?_
  · rintro i H3 hi ⟨Hf', acc, g, hD3, fD', hacc⟩
    have h1 : i < ss.length := by omega
    have h2 : i + 1 < ss.length := by omega
    have ea : ss[i]? = some ss[i] := List.getElem?_eq_getElem h1
    have eb : ss[i + 1]? = some ss[i + 1] := List.getElem?_eq_getElem h2
    have hle := up_get ss i _ _ hup ea eb
    have hg := runsBy_get ss l i _ _ ea eb
    generalize ss[i] = x at *
    generalize ss[i + 1] = y at *
    have hb3 := g.same.seq hb
    have hm3 := g.same.seq hm
    refine ⟨rfl, _, rfl, _, rfl, _, rfl, b, _, _, _, rfl, rfl, hb3, Bs_atI (by omega) (by rw [show ((0 : Int) + (i : Int)).toNat = i by omega]; exact ea), _, rfl, _, rfl, _, rfl, _, _, rfl, rfl, b, _, _, _, rfl, rfl, hb3, Bs_atI (by omega) (by rw [show ((0 : Int) + (i : Int) + 1).toNat = i + 1 by omega]; exact eb), _, rfl, m, us, rfl, hm3, fun p hp => ?_⟩
    have ec : cutV us (some (x : Int)) (some (y : Int)) = (us.drop x).take (y - x) := cutV_nat us _ _ hle
    have g4 := Grow.freeze g.fh (Grow.of g.fh (same_new hp (.lst (cutV us (some (x : Int)) (some (y : Int)))))) hp upd_same
    have hts := take_sub l x (y - x)
    refine ⟨_, p, (us.drop x).take (y - x), (l.drop x).take (y - x), rfl, g4.fh, by rw [upd_same, ec], (((hl.mono g.ff).drop x).take (y - x)).mono g4.ff, by omega, fun r H5 Hf5 g5 hr5 => ?_⟩
    have hal : acc.length ≤ 100000 := by
      rw [hacc.length, List.length_take]
      omega
    have fD5 := g5.out (g4.same _ _ hD3) (g4.out hD3 fD')
    refine ⟨acc, (g4.trans g5).same _ _ hD3, Nat.lt_of_le_of_lt hal (by decide), Hf5, acc ++ [r], ((g.trans g4).trans g5).mut hD fD5, upd_same, fD5, ?_⟩
    rw [take_more hg]
    exact (hacc.mono (g4.trans g5).ff).append (.one hr5)
  · rintro H3 ⟨Hf', acc, g, hD3, fD', hacc⟩
    rw [hn, List.take_of_length_le (by rw [hrl]; exact Nat.le_refl _)] at hacc
    exact q D acc H3 Hf' hD g hD3 fD' hacc
end
end N
namespace N
open PySem L2
/-- look_leaves(leaves) -/
def spLookLeaves (K : PySem.W.Frag) : Sp := fun vs H Q _ => ∃ (p : Addr) (d : List Int), vs = [.ref p] ∧ SqL K H p (d.map V.int) ∧ (∀ n ∈ d, -1000000000000000000 ≤ n ∧ n ≤ 1000000000000000000) ∧ Q .non H
section
variable {P : Program} {w : World} {K : PySem.W.Frag} {mg : Str → Option Value} {base : Heap} {CRef fRef : Addr}
theorem sc_look_leaves : FnScope ["leaves", "n"] ["leaves"] (defScope sLookLeaves) := ⟨rfl, rfl, rfl, by decide +kernel, rfl, by decide +kernel, by decide +kernel⟩
theorem ok_look_leaves (T : Top1 K mg "look_leaves" sLookLeaves ["leaves"]) (c_DATA : CI mg "DATA" (-11)) (R : PySem.RefX.RefTxt K mg CRef fRef) (D_within_bounds : Def P w K mg base CX0 "within_bounds" 1 ["n"] (spWithin)) : Def P w K mg base (L2.CX P w) "look_leaves" 2 ["leaves"] (spLookLeaves K) := by
  refine T.okX sc_look_leaves (fun vs H Q E h => ?_) (fun f cdv A outer s H vs Q E hr h => ?_)
  · obtain ⟨p, d, rfl, _⟩ := h
    rfl
  obtain ⟨p, d, rfl, hS, hb, q⟩ := h
  refine ⟨_, (pss_one (ps_for (passes_of rfl) rfl (pi_list (pv 0)) (pg_name (i := 1) sc_look_leaves.nd rfl (Or.inl rfl)) (pss_one (ps_if (pt_not (pt_val (pe_fn D_within_bounds (hr.mono (by decide)) pass0 (pa_cons (pv 1) pa_nil)))) (pss_one (ps_raiseRef rfl R hr (takes_of rfl rfl rfl rfl) (pa_cons (pe_ci c_DATA) pa_nil))) pss_nil)))), ?_⟩
  refine ⟨_, rfl, p, rfl, ⟨_, hS⟩, for_list (K := K) (a := p) (xs := d.map V.int) (fun i σ H' => H' = H ∧ ∃ c, σ = [some (.ref p), c]) ⟨rfl, none, rfl⟩ (fun i σ H' _ h => h.1 ▸ hS) ?_ ?_⟩
  · rintro i y σ H' hi ⟨rfl, c, rfl⟩
    obtain ⟨n, hn, rfl⟩ := getI hi
    have hbn := hb n (List.mem_of_getElem? hn)
    have hin : inG n = true := by
      unfold inG
      exact decide_eq_true hbn
    refine ⟨_, rfl, _, rfl, _, rfl, ?_⟩
    rw [hin]
    exact iteF ⟨rfl, _, rfl⟩
  · rintro σ H' ⟨rfl, c, rfl⟩
    exact q
end
end N
namespace N
open PySem L2
/-- unflattened(d, numbers) -/
def spUnflattened (K : PySem.W.Frag) (C CR : Addr) : Sp := fun vs H Q E => ∃ (d : Nat) (a : Addr) (l : List Int), vs = [.int (d : Int), .ref a] ∧ 1 ≤ d ∧ d ≤ 8 ∧ SqL K H a (l.map V.int) ∧ l.length ≤ 2000 ∧ (∀ n ∈ l, -1000000000000000000 ≤ n ∧ n ≤ 1000000000000000000) ∧ OutV C CR Q E H (Vaarrm.unflat d l)
theorem unflat_is (d : Nat) (l : List Int) : Vaarrm.unflat d l = match Vaarrm.pathOf l with
    | none => .error (-11)
    | some ls => if ls.length ≠ d ∨ Vaarrm.goodLists ls = false then .error (-11) else .ok (Vaarrm.vector (Vaarrm.levelOf ls)) := rfl
theorem goodUp_drop {os : List (List Int)} {m : List Int} : ∀ j, goodUp os m = true → goodUp (os.drop j) m = true := fun j h => by
  induction os generalizing j with
  | nil => rw [List.drop_nil]; rfl
  | cons o r ih =>
    cases j with
    | zero => exact h
    | succ j =>
      have h' : (Vaarrm.goodOffsets o (cnt r m) && goodUp r m) = true := h
      rw [Bool.and_eq_true] at h'
      exact ih j h'.2
section
variable {P : Program} {w : World} {K : PySem.W.Frag} {mg : Str → Option Value} {base : Heap} {CArr CRef fRef : Addr}
theorem sc_unflattened : FnScope ["d", "numbers", "lists", "members", "many", "sums"] ["d", "numbers"] (defScope sUnflattened) := ⟨rfl, rfl, rfl, by decide +kernel, rfl, by decide +kernel, by decide +kernel⟩
theorem ok_unflattened (T : Top1 K mg "unflattened" sUnflattened ["d", "numbers"]) (b_len : mg "len" = none) (b_reversed : mg "reversed" = none) (D_vector : Def P w K mg base CX0 "vector" 3 ["members"] (spVector CArr)) (D_runs_of : Def P w K mg base CX0 "runs_of" 4 ["members", "sums"] (spRunsOf K CArr)) (D_look_sums : Def P w K mg base (L2.CX P w) "look_sums" 2 ["sums", "many"] (spLookSums K CRef)) (D_look_leaves : Def P w K mg base (L2.CX P w) "look_leaves" 2 ["leaves"] (spLookLeaves K)) (D_cut_lists : Def P w K mg base (L2.CX P w) "cut_lists" 2 ["d", "numbers"] (spCutLists K CRef)) : Def P w K mg base (L2.CX P w) "unflattened" 5 ["d", "numbers"] (spUnflattened K CArr CRef) := by
  refine T.okX sc_unflattened (fun vs H Q E h => ?_) (fun f cdv A outer s H vs Q E hr h => ?_)
  · obtain ⟨d, a, l, rfl, _⟩ := h
    rfl
  obtain ⟨d, a, l, rfl, hd1, hd8, hS, hz, hb, q⟩ := h
  refine ⟨_, (pss_cons (ps_set (i := 2) sc_unflattened.nd rfl (Or.inl rfl) (pe_fn D_cut_lists (hr.mono (by decide)) (passes_call (takes_of rfl rfl rfl rfl) (fun _ _ _ _ h => h)) (pa_cons (pv 0) (pa_cons (pv 1) pa_nil)))) (pss_cons (ps_set (i := 3) sc_unflattened.nd rfl (Or.inl rfl) (pe_bm0 PySem.F.plainAttrs_list PySem.F.slot_list_pop PySem.F.type_list_pop mt_pop (pv 2))) (pss_cons (ps_expr (pe_fn D_look_leaves (hr.mono (by decide)) (passes_call (takes_of rfl rfl rfl rfl) (fun _ _ _ _ h => h)) (pa_cons (pv 3) pa_nil))) (pss_cons (ps_set (i := 4) sc_unflattened.nd rfl (Or.inl rfl) (pe_callB call_len_seq (by rfl) b_len (by decide +kernel) (pa_cons (pv 3) pa_nil))) (pss_cons (ps_for (passes_of rfl) rfl (pi_reversed rfl b_reversed (pa_cons (pv 2) pa_nil)) (pg_name (i := 5) sc_unflattened.nd rfl (Or.inl rfl)) (pss_cons (ps_expr (pe_fn D_look_sums (hr.mono (by decide)) (passes_call (takes_of rfl rfl rfl rfl) (fun _ _ _ _ h => h)) (pa_cons (pv 5) (pa_cons (pv 4) pa_nil)))) (pss_one (ps_set (i := 4) sc_unflattened.nd rfl (Or.inl rfl) (pe_op op_sub (pe_callB call_len_seq (by rfl) b_len (by decide +kernel) (pa_cons (pv 5) pa_nil)) pe_int))))) (pss_cons (ps_for (passes_of rfl) rfl (pi_reversed rfl b_reversed (pa_cons (pv 2) pa_nil)) (pg_name (i := 5) sc_unflattened.nd rfl (Or.inl rfl)) (pss_one (ps_set (i := 3) sc_unflattened.nd rfl (Or.inl rfl) (pe_fn D_runs_of (hr.mono (by decide)) pass0 (pa_cons (pv 3) (pa_cons (pv 5) pa_nil)))))) (pss_one (ps_ret (pe_fn D_vector (hr.mono (by decide)) pass0 (pa_cons (pv 3) pa_nil)))))))))), ?_⟩
  rw [unflat_is] at q
  refine ⟨_, rfl, _, rfl, d, a, l, rfl, hS, by omega, by omega, hb, fun ds hds hdl p xs H1 Hf hp g hp1 fp hR => ?_, fun hno => ?_⟩
  rotate_left
  · cases hpo : Vaarrm.pathOf l with
    | none =>
      rw [hpo] at q
      exact q
    | some ds =>
      rw [hpo] at q
      dsimp only at q
      rw [if_pos (.inl (hno ds hpo))] at q
      exact q
  rw [hds] at q
  dsimp only at q
  have heach := listsOf_each _ _ _ hds
  obtain ⟨x, xs', m, os, rfl, rfl, ⟨pm, rfl, hpm⟩, hR'⟩ := Paired.last hR (by intro z; rw [z] at hdl; simp at hdl; omega)
  have hol : os.length = d - 1 := by
    rw [List.length_append, List.length_singleton] at hdl
    omega
  have hml := heach m (List.mem_append_right _ (List.mem_singleton.mpr rfl))
  have hmb : ∀ n ∈ m, -1000000000000000000 ≤ n ∧ n ≤ 1000000000000000000 := fun n hn => hb n (hml.2 n hn)
  have hob : ∀ o ∈ os, o.length ≤ 2000 ∧ ∀ n ∈ o, -1000000000000000000 ≤ n ∧ n ≤ 1000000000000000000 := fun o ho => by
    have := heach o (List.mem_append_left _ ho)
    exact ⟨by omega, fun n hn => hb n (this.2 n hn)⟩
  have hall : (m.all (fun n => decide (-Vaarrm.G ≤ n) && decide (n ≤ Vaarrm.G))) = true := List.all_eq_true.mpr fun n hn => by
    have := hmb n hn
    rw [Bool.and_eq_true]
    exact ⟨decide_eq_true (by show -(1000000000000000000 : Int) ≤ n; omega), decide_eq_true (by show n ≤ (1000000000000000000 : Int); omega)⟩
  rw [goodLists_is, hall, Bool.and_true, levelOf_is] at q
  -- members = lists.pop()
  refine ⟨_, rfl, .inl ⟨rfl, _, SqL.of hp1⟩, p, _, _, rfl, rfl, hp1, by rw [List.length_append, List.length_singleton, Nat.add_sub_cancel, List.getElem?_append_right (Nat.le_refl _), Nat.sub_self]; rfl, ?_⟩
  rw [List.dropLast_concat]
  have g2 := g.mut (o := .lst xs') hp fp
  have hp2 : (upd H1 p (.lst xs')) p = some (.lst xs') := upd_same
  generalize upd H1 p (.lst xs') = H2 at *
  have hpm2 := g2.fh _ _ hpm
  have hxl : xs'.length = os.length := Paired.length hR'
  refine ⟨_, rfl, pm, m, rfl, SqL.of hpm2, hmb, ?_⟩
  refine ⟨_, rfl, pm, _, rfl, .inl (SqL.of hpm2), ?_⟩
  rw [List.length_map]
  refine ⟨_, rfl, p, xs', rfl, SqL.of hp2, ?_⟩
  refine RT.for_Itv (K := K) (a := p) (xs := xs') (fun i σ H' => H' = H2 ∧ goodUp (os.drop (os.length - i)) m = true ∧ ∃ b, σ = [some (.int (d : Int)), some (.ref a), some (.ref p), some (.ref pm), some (.int (cnt (os.drop (os.length - i)) m)), b]) ⟨rfl, ?_, none, ?_⟩ (fun i σ H' h => h.1 ▸ SqL.of hp2) ?_ ?_
  · rw [Nat.sub_zero, List.drop_length]
    rfl
  · rw [Nat.sub_zero, List.drop_length]
    rfl
  · rintro i y σ H' hi hy ⟨rfl, hgu, b, rfl⟩
    obtain ⟨o, ho, po, rfl, hpo⟩ := Paired.get2 hR' hy
    have hj := (List.getElem?_eq_some_iff.mp ho).1
    have e : os.drop (os.length - (i + 1)) = o :: os.drop (os.length - i) := by
      have h1 : os.length - (i + 1) = xs'.length - 1 - i := by omega
      rw [h1, List.drop_eq_getElem_cons hj, (List.getElem?_eq_some_iff.mp ho).2, show xs'.length - 1 - i + 1 = os.length - i by omega]
    have hpo2 := g2.fh _ _ hpo
    have hoo := hob o (List.mem_of_getElem? ho)
    refine ⟨_, rfl, _, rfl, po, o, _, rfl, SqL.of hpo2, by omega, fun hgo => ?_, fun hgo => ?_⟩
    · refine ⟨_, rfl, po, _, rfl, .inl (SqL.of hpo2), _, _, rfl, rfl, rfl, ?_, some (.ref po), ?_⟩
      · rw [e]
        show (Vaarrm.goodOffsets o (cnt (os.drop (os.length - i)) m) && goodUp (os.drop (os.length - i)) m) = true
        rw [hgo, hgu]
        rfl
      · rw [e, List.length_map]
        rfl
    · have hbad : goodUp os m = false := by
        cases hg : goodUp os m with
        | false => rfl
        | true =>
          have h2 := goodUp_drop (os.length - (i + 1)) hg
          rw [e] at h2
          have h2 : (Vaarrm.goodOffsets o (cnt (os.drop (os.length - i)) m) && goodUp (os.drop (os.length - i)) m) = true := h2
          rw [hgo] at h2
          cases h2
      rw [if_pos (.inr hbad)] at q
      exact Fails.back g2.same q
  rintro σ H' ⟨rfl, hgu, b, rfl⟩
  rw [hxl, Nat.sub_self, List.drop_zero] at hgu
  rw [if_neg (fun h => h.elim (fun h => h hdl) (fun h => by rw [hgu] at h; cases h))] at q
  have hlz := level_size m
  refine ⟨_, rfl, p, xs', rfl, SqL.of hp2, ?_⟩
  refine RT.for_Itv (K := K) (a := p) (xs := xs') (fun i σ H3 => ∃ (z : Addr) (us : List V) (Hg : Hp) (c e : Option V), σ = [some (.int (d : Int)), some (.ref a), some (.ref p), some (.ref z), c, e] ∧ Grow H' H3 Hf Hg ∧ H3 z = some (.lst us) ∧ Reps CArr Hg us ((os.drop (os.length - i)).foldr (fun o us => Vaarrm.byOffsets o us) (m.map Vaarrm.V.num))) ⟨pm, m.map V.int, Hf, _, _, rfl, Grow.refl g2.fh, hpm2, ?_⟩ (fun i σ H3 ⟨_, _, _, _, _, _, g, _⟩ => SqL.of (g.same _ _ hp2)) ?_ ?_
  · rw [Nat.sub_zero, List.drop_length]
    exact reps_nums hmb
  · rintro i y σ H3 hi hy ⟨z, us, Hg, c, e0, rfl, g3, hz3, hus⟩
    obtain ⟨o, ho, po, rfl, hpo⟩ := Paired.get2 hR' hy
    have hj := (List.getElem?_eq_some_iff.mp ho).1
    have e : os.drop (os.length - (i + 1)) = o :: os.drop (os.length - i) := by
      have h1 : os.length - (i + 1) = xs'.length - 1 - i := by omega
      rw [h1, List.drop_eq_getElem_cons hj, (List.getElem?_eq_some_iff.mp ho).2, show xs'.length - 1 - i + 1 = os.length - i by omega]
    have hgo := goodUp_drop (os.length - (i + 1)) hgu
    rw [e] at hgo
    have hgo : (Vaarrm.goodOffsets o (cnt (os.drop (os.length - i)) m) && goodUp (os.drop (os.length - i)) m) = true := hgo
    rw [Bool.and_eq_true] at hgo
    have hg1 : (o.head? == some 0 && ((o.getLast? == some (cnt (os.drop (os.length - i)) m)) && upI o)) = true := hgo.1
    rw [Bool.and_eq_true, Bool.and_eq_true] at hg1
    obtain ⟨ss, rfl, hup, hh, hsl⟩ := good_nats (a := 0) (by omega) (eq_of_beq hg1.1) hg1.2.2
    have hoo := hob _ (List.mem_of_getElem? ho)
    rw [List.length_map] at hoo
    have hlv := hlz (os.drop (os.length - i)) fun o ho => (hob o (List.mem_of_mem_drop ho)).1
    have hdl2 : (os.drop (os.length - i)).length ≤ os.length := by rw [List.length_drop]; omega
    rw [e, List.foldr_cons]
    generalize (os.drop (os.length - i)).foldr (fun o us => Vaarrm.byOffsets o us) (m.map Vaarrm.V.num) = L at *
    have hLl := len_tsizeL L
    have hbr := by_runs ss 0 L hh hup
    rw [List.drop_zero] at hbr
    have hpo3 : H3 po = some (.lst (Bs ss)) := by
      rw [← Bs_map]
      exact g3.fh _ _ (g3.ff _ _ hpo)
    refine ⟨_, rfl, _, rfl, Hg, z, po, us, L, ss, rfl, g3.fh, SqL.of hz3, hus, SqL.of hpo3, by omega, by omega, hsl, hup, fun z2 ys H4 Hg4 hz2 g4 hz24 fz2 hys => ?_⟩
    rw [← hbr] at hys
    exact ⟨z2, ys, Hg4, _, _, rfl, g3.trans g4, hz24, hys⟩
  · rintro σ H3 ⟨z, us, Hg, c, e0, rfl, g3, hz3, hus⟩
    rw [hxl, Nat.sub_self, List.drop_zero] at hus
    have hlv := hlz os fun o ho => (hob o ho).1
    generalize os.foldr (fun o us => Vaarrm.byOffsets o us) (m.map Vaarrm.V.num) = L at *
    have hLl := len_tsizeL L
    exact ⟨_, rfl, H3, z, us, L, rfl, Same.refl _, hz3, hus.mono g3.fh, by omega, fun r H5 Hf5 g5 hr5 => q r H5 ((g2.same.trans g3.same).trans g5.same) (hr5.mono g5.fh)⟩
end
end N
namespace N
open PySem L2
/-- look_kind(kind, least, greatest) -/
def spLookKind (CR : Addr) : Sp := fun vs H Q E => ∃ k lo hi : Int, vs = [.int k, .int lo, .int hi] ∧ (lo ≤ k → k ≤ hi → Q .non H) ∧ (k < lo ∨ hi < k → Fails CR E H (-12))
section
variable {P : Program} {w : World} {K : PySem.W.Frag} {mg : Str → Option Value} {base : Heap} {CRef fRef : Addr}
theorem sc_look_kind : FnScope ["kind", "least", "greatest"] ["kind", "least", "greatest"] (defScope sLookKind) := ⟨rfl, rfl, rfl, by decide +kernel, rfl, by decide +kernel, by decide +kernel⟩
theorem ok_look_kind (T : Top1 K mg "look_kind" sLookKind ["kind", "least", "greatest"]) (c_KIND : CI mg "KIND" (-12)) (R : PySem.RefX.RefTxt K mg CRef fRef) : Def P w K mg base (L2.CX P w) "look_kind" 2 ["kind", "least", "greatest"] (spLookKind CRef) := by
  refine T.okX sc_look_kind (fun vs H Q E h => ?_) (fun f cdv A outer s H vs Q E hr h => ?_)
  · obtain ⟨k, lo, hi, rfl, _⟩ := h
    rfl
  obtain ⟨k, lo, hi, rfl, q, qf⟩ := h
  refine ⟨_, (pss_one (ps_if (PW.pt (pw_or (pt_cmpR op_lt (pv 0) (pv 1) (nomark _)) (pw_or1 (pt_cmpR op_gt (pv 0) (pv 2) (nomark _))))) (pss_one (ps_raiseRef rfl R hr (takes_of rfl rfl rfl rfl) (pa_cons (pe_ci c_KIND) pa_nil))) pss_nil)), ?_⟩
  refine ⟨_, rfl, _, rfl, _, _, rfl, rfl, _, rfl, ?_⟩
  by_cases h1 : k < lo
  · exact itT h1 ⟨_, rfl, fun d hd => qf (.inl h1) d _ (same_new hd _) upd_same⟩
  refine itF h1 ⟨_, rfl, _, rfl, _, _, rfl, rfl, _, rfl, ?_⟩
  by_cases h2 : hi < k
  · exact itT h2 ⟨_, rfl, fun d hd => qf (.inr h2) d _ (same_new hd _) upd_same⟩
  · exact itF h2 (q (by omega) (by omega))
end
end N
namespace N
open PySem L2
theorem dueUn_is (k : Int) (l : List Int) : dueUn k l = if k < 1 ∨ 8 < k then [-12] else dueG (Vaarrm.unflat k.toNat l) := by
  show VaarrmNeutral.encode (if k < 1 ∨ 8 < k then Vaarrm.no (-12) else Vaarrm.given (Vaarrm.unflat k.toNat l)) = _
  split <;> rfl
theorem unflat_size {d : Nat} {l : List Int} (hd : d ≤ 8) (hl : l.length ≤ 2000) : ∀ x, Vaarrm.unflat d l = .ok x → tsize x ≤ 1000000 := fun x hx => by
  rw [unflat_is] at hx
  cases hp : Vaarrm.pathOf l with
  | none => rw [hp] at hx; cases hx
  | some ls =>
    rw [hp] at hx
    dsimp only at hx
    split at hx
    · cases hx
    · rename_i hc
      have e := Except.ok.inj hx
      subst e
      have hlen : ls.length = d := by
        by_cases h : ls.length = d
        · exact h
        · exact absurd (.inl h) hc
      have heach := listsOf_each _ _ _ hp
      cases hls : ls with
      | nil => show 1 + tsizeL (Vaarrm.levelOf []) ≤ _; decide
      | cons z zs =>
        obtain ⟨os, m, hom⟩ : ∃ os m, ls = os ++ [m] := ⟨ls.dropLast, ls.getLast (by rw [hls]; simp), (List.dropLast_concat_getLast _).symm⟩
        rw [← hls, hom]
        have h1 := level_size m os fun o ho => by
          have := heach o (by rw [hom]; exact List.mem_append_left _ ho)
          omega
        have h2 := heach m (by rw [hom]; exact List.mem_append_right _ (List.mem_singleton.mpr rfl))
        have h3 : os.length + 1 = ls.length := by rw [hom, List.length_append, List.length_singleton]
        show 1 + tsizeL (Vaarrm.levelOf (os ++ [m])) ≤ _
        rw [levelOf_is]
        exact Nat.le_trans (Nat.add_le_add_left h1 1) (by omega)
section
variable {P : Program} {w : World} {K : PySem.W.Frag} {mg : Str → Option Value} {base : Heap} {CTok CArr CRef fRef : Addr}
theorem sc_unflat : FnScope ["d", "lists", "e"] ["d", "lists"] (defScope sUnflat) := ⟨rfl, rfl, rfl, by decide +kernel, rfl, by decide +kernel, by decide +kernel⟩
theorem ok_unflat (T : Top1 K mg "unflat" sUnflat ["d", "lists"]) (R : PySem.RefX.RefTxt K mg CRef fRef) (D_value_answer : Def P w K mg base (L2.CX P w) "value_answer" 13 ["u"] (spValAns CArr CRef)) (D_unflattened : Def P w K mg base (L2.CX P w) "unflattened" 5 ["d", "numbers"] (spUnflattened K CArr CRef)) (D_look_kind : Def P w K mg base (L2.CX P w) "look_kind" 2 ["kind", "least", "greatest"] (spLookKind CRef)) : Def P w K mg base CX0 "unflat" 14 ["d", "lists"] (spKL K dueUn) := by
  refine T.ok sc_unflat (fun vs H Q E h => ?_) (fun f cdv A outer s H vs Q E hr h => ?_)
  · obtain ⟨k, b, ns, rfl, _⟩ := h
    rfl
  obtain ⟨k, b, ns, rfl, hk1, hk2, hS, hz, hnb, q⟩ := h
  refine ⟨_, (pss_one (ps_try_as (i := 2) (Wout := fun _ _ _ _ => False) rfl rfl sc_unflat.nd rfl rfl ⟨rfl, by decide, Or.inl R.gC⟩ takes0 (fun W pn xe tk _ => (pss_cons (ps_expr (pe_fnS D_look_kind (hr.mono (by decide)) tk (pa_cons (pv 0) (pa_cons pe_int (pa_cons pe_int pa_nil))))) (pss_one (ps_ret (pe_fnS D_value_answer (hr.mono (by decide)) tk (pa_cons (pe_fnS D_unflattened (hr.mono (by decide)) tk (pa_cons (pv 0) (pa_cons (pv 1) pa_nil))) pa_nil)))))) (fun a oe cls d pn hz hf => (pss_one (ps_ret (pe_lst (pa_cons (pe_numRef R hz hf (pv 2)) pa_nil))))))), ?_⟩
  rw [dueUn_is] at q
  refine ⟨_, rfl, k, 1, 8, rfl, fun h1 h2 => ?_, fun hbad d H' s1 hd => ⟨true, R.te, fun _ x _ => ⟨_, rfl, rfl, rfl, d, _, rfl, hd, by show 1 ≤ sizeLine; decide, fun p hp => q _ p (by rw [if_pos hbad]; exact upd_same)⟩, fun z => Bool.noConfusion z⟩⟩
  rw [if_neg (by omega)] at q
  refine ⟨_, rfl, _, rfl, k.toNat, b, ns, by show [V.int k, V.ref b] = _; rw [Int.toNat_of_nonneg (by omega)], by omega, by omega, hS, hz, hnb, ?_⟩
  have hsz := unflat_size (d := k.toNat) (l := ns) (by omega) hz
  cases hres : Vaarrm.unflat k.toNat ns with
  | ok x =>
    have hsz := hsz x hres
    rw [hres] at q
    intro r H2 e2 hr2
    refine ⟨r, _, rfl, hr2, by omega, fun ho p H2 hp e2 hp2 => q _ p ?_, fun ho d H' s1 hd => ⟨true, R.te, fun _ x _ => ⟨_, rfl, rfl, rfl, d, _, rfl, hd, by show 1 ≤ sizeLine; decide, fun p hp => q _ p ?_⟩, fun z => Bool.noConfusion z⟩⟩
    · rw [dueG_list ho]
      exact hp2
    · rw [dueG_lim ho]
      exact upd_same
  | error n =>
    rw [hres] at q
    exact fun d H' s1 hd => ⟨true, R.te, fun _ x _ => ⟨_, rfl, rfl, rfl, d, _, rfl, hd, by show 1 ≤ sizeLine; decide, fun p hp => q _ p upd_same⟩, fun z => Bool.noConfusion z⟩
end
end N
namespace N
theorem py_is {k : Int} {l : List Int} : PyVaarrm.unflat k l = dueUn k l := rfl
end N
open PySem PySem.W PyProof.Rows
set_option maxRecDepth 100000 in
set_option maxHeartbeats 8000000 in
theorem PySem.Challenge.cw_nestarray_s24_unflat_holds : PySem.Challenge.rw_nestarray_s24_unflat.Holds := by
  w_on; k_headS; (case hw => exact ⟨[.int 0, .list []], by decide +kernel, by decide +kernel⟩)
  k_fillS
  refine L2.walk_specK (r := PySem.Challenge.rw_nestarray_s24_unflat) (k := 14) (CX := L2.CX0) (ps := ["d", "lists"]) (sp := (fun K => N.spKL K N.dueUn)) (by decide +kernel) rfl rfl ⟨rfl, by decide, by decide⟩ (fun w h Y => PySem.W.kIn_of Y) ?F ?S (fun _ _ _ _ z => z)
  case F =>
    intro w mg fa h Y KX G hmg
    obtain ⟨CRef, fRef, R⟩ : ∃ C f, N.RefTxtAt KX mg C f := by
      refine' ⟨_, _, N.refTxt KX G (p1 := ⟨7, 17, 7, 21⟩) (p2 := ⟨7, 23, 7, 29⟩) (q1 := ⟨8, 8, 8, 12⟩) (q2 := ⟨8, 8, 8, 19⟩) (q3 := ⟨8, 22, 8, 28⟩) (q4 := ⟨8, 8, 8, 28⟩) ?aC ?xL ?sa ?ga ?gg ?nb ?a1 ?t1 ?l1 ?c1 ?kC ?eC ?tC ?hC ?iC ?sC⟩
      (case aC => k_is); (case xL => k_is); (case sa => k_is); (case ga => k_is); (case gg => k_is); (case nb => k_is); (case a1 => k_is); (case t1 => k_is); (case l1 => k_is); (case c1 => k_is); (case kC => k_is); (case eC => k_is); (case tC => k_is); (case hC => k_is); (case iC => k_is); (case sC => first | rfl | k_is)
    obtain ⟨CArr, T_Arr, F_Arr, A_Arr⟩ : ∃ C, N.TopCAt KX mg "Arr" "Arr.__init__" N.sArrInit ["self", "extents", "members"] C ∧ N.ClFAt KX C ["extents", "members"] ∧ N.ArrIsAt KX C := by
      refine' ⟨_, N.topC KX G ?aC ?pg ?hd ?po ?sa ?mk ?kc ?a ?i ?l ?c ?k (fun _ _ _ _ _ _ us hl => match us, hl with | [_, _, _], _ => rfl), (N.clf_cons ?n_extents (N.clf_cons ?n_members (N.clf_nil ⟨?pg, ?hd, ?po, ?sa⟩))), ⟨?cc, ?cg, ?ct, ?co, ?ci⟩⟩
      (case aC => k_is); (case pg => k_is); (case hd => k_is); (case po => k_is); (case sa => k_is); (case mk => k_is); (case kc => k_is); (case a => k_is); (case i => k_is); (case l => k_is); (case c => k_is); (case k => k_is); (case n_extents => k_is); (case n_members => k_is); (case cc => k_is); (case cg => k_is); (case ct => k_is); (case co => k_is); (case ci => k_is)
    have T_vector : N.Top1At KX mg "vector" N.sVector ["members"] := by
      refine' N.top1 KX G ?a ?l ?c ?k (fun _ _ _ _ _ _ us hl => match us, hl with | [_], _ => rfl)
      (case a => k_is); (case l => k_is); (case c => k_is); (case k => k_is)
    have T_is_number : N.Top1At KX mg "is_number" N.sIsNumber ["u"] := by
      refine' N.top1 KX G ?a ?l ?c ?k (fun _ _ _ _ _ _ us hl => match us, hl with | [_], _ => rfl)
      (case a => k_is); (case l => k_is); (case c => k_is); (case k => k_is)
    have T_product : N.Top1At KX mg "product" N.sProduct ["numbers"] := by
      refine' N.top1 KX G ?a ?l ?c ?k (fun _ _ _ _ _ _ us hl => match us, hl with | [_], _ => rfl)
      (case a => k_is); (case l => k_is); (case c => k_is); (case k => k_is)
    have T_is_shape : N.Top1At KX mg "is_shape" N.sIsShape ["extents"] := by
      refine' N.top1 KX G ?a ?l ?c ?k (fun _ _ _ _ _ _ us hl => match us, hl with | [_], _ => rfl)
      (case a => k_is); (case l => k_is); (case c => k_is); (case k => k_is)
    have T_within_bounds : N.Top1At KX mg "within_bounds" N.sWithinBounds ["n"] := by
      refine' N.top1 KX G ?a ?l ?c ?k (fun _ _ _ _ _ _ us hl => match us, hl with | [_], _ => rfl)
      (case a => k_is); (case l => k_is); (case c => k_is); (case k => k_is)
    have T_walk : N.Top1At KX mg "walk" N.sWalk ["u"] := by
      refine' N.top1 KX G ?a ?l ?c ?k (fun _ _ _ _ _ _ us hl => match us, hl with | [_], _ => rfl)
      (case a => k_is); (case l => k_is); (case c => k_is); (case k => k_is)
    have T_deepest : N.Top1At KX mg "deepest" N.sDeepest ["met"] := by
      refine' N.top1 KX G ?a ?l ?c ?k (fun _ _ _ _ _ _ us hl => match us, hl with | [_], _ => rfl)
      (case a => k_is); (case l => k_is); (case c => k_is); (case k => k_is)
    have T_within_limits : N.Top1At KX mg "within_limits" N.sWithinLimits ["u"] := by
      refine' N.top1 KX G ?a ?l ?c ?k (fun _ _ _ _ _ _ us hl => match us, hl with | [_], _ => rfl)
      (case a => k_is); (case l => k_is); (case c => k_is); (case k => k_is)
    have T_all_shapes : N.Top1At KX mg "all_shapes" N.sAllShapes ["u"] := by
      refine' N.top1 KX G ?a ?l ?c ?k (fun _ _ _ _ _ _ us hl => match us, hl with | [_], _ => rfl)
      (case a => k_is); (case l => k_is); (case c => k_is); (case k => k_is)
    have T_come_out : N.Top1At KX mg "come_out" N.sComeOut ["u"] := by
      refine' N.top1 KX G ?a ?l ?c ?k (fun _ _ _ _ _ _ us hl => match us, hl with | [_], _ => rfl)
      (case a => k_is); (case l => k_is); (case c => k_is); (case k => k_is)
    have T_runs_of : N.Top1At KX mg "runs_of" N.sRunsOf ["members", "sums"] := by
      refine' N.top1 KX G ?a ?l ?c ?k (fun _ _ _ _ _ _ us hl => match us, hl with | [_, _], _ => rfl)
      (case a => k_is); (case l => k_is); (case c => k_is); (case k => k_is)
    have T_cut_lists : N.Top1At KX mg "cut_lists" N.sCutLists ["d", "numbers"] := by
      refine' N.top1 KX G ?a ?l ?c ?k (fun _ _ _ _ _ _ us hl => match us, hl with | [_, _], _ => rfl)
      (case a => k_is); (case l => k_is); (case c => k_is); (case k => k_is)
    have T_look_sums : N.Top1At KX mg "look_sums" N.sLookSums ["sums", "many"] := by
      refine' N.top1 KX G ?a ?l ?c ?k (fun _ _ _ _ _ _ us hl => match us, hl with | [_, _], _ => rfl)
      (case a => k_is); (case l => k_is); (case c => k_is); (case k => k_is)
    have T_look_leaves : N.Top1At KX mg "look_leaves" N.sLookLeaves ["leaves"] := by
      refine' N.top1 KX G ?a ?l ?c ?k (fun _ _ _ _ _ _ us hl => match us, hl with | [_], _ => rfl)
      (case a => k_is); (case l => k_is); (case c => k_is); (case k => k_is)
    have T_unflattened : N.Top1At KX mg "unflattened" N.sUnflattened ["d", "numbers"] := by
      refine' N.top1 KX G ?a ?l ?c ?k (fun _ _ _ _ _ _ us hl => match us, hl with | [_, _], _ => rfl)
      (case a => k_is); (case l => k_is); (case c => k_is); (case k => k_is)
    have T_digits : N.Top1At KX mg "digits" N.sDigits ["n"] := by
      refine' N.top1 KX G ?a ?l ?c ?k (fun _ _ _ _ _ _ us hl => match us, hl with | [_], _ => rfl)
      (case a => k_is); (case l => k_is); (case c => k_is); (case k => k_is)
    have T_number_text : N.Top1At KX mg "number_text" N.sNumberText ["n"] := by
      refine' N.top1 KX G ?a ?l ?c ?k (fun _ _ _ _ _ _ us hl => match us, hl with | [_], _ => rfl)
      (case a => k_is); (case l => k_is); (case c => k_is); (case k => k_is)
    have T_extents_text : N.Top1At KX mg "extents_text" N.sExtentsText ["extents"] := by
      refine' N.top1 KX G ?a ?l ?c ?k (fun _ _ _ _ _ _ us hl => match us, hl with | [_], _ => rfl)
      (case a => k_is); (case l => k_is); (case c => k_is); (case k => k_is)
    have T_value_text : N.Top1At KX mg "value_text" N.sValueText ["u"] := by
      refine' N.top1 KX G ?a ?l ?c ?k (fun _ _ _ _ _ _ us hl => match us, hl with | [_], _ => rfl)
      (case a => k_is); (case l => k_is); (case c => k_is); (case k => k_is)
    have T_value_answer : N.Top1At KX mg "value_answer" N.sValueAnswer ["u"] := by
      refine' N.top1 KX G ?a ?l ?c ?k (fun _ _ _ _ _ _ us hl => match us, hl with | [_], _ => rfl)
      (case a => k_is); (case l => k_is); (case c => k_is); (case k => k_is)
    have T_look_kind : N.Top1At KX mg "look_kind" N.sLookKind ["kind", "least", "greatest"] := by
      refine' N.top1 KX G ?a ?l ?c ?k (fun _ _ _ _ _ _ us hl => match us, hl with | [_, _, _], _ => rfl)
      (case a => k_is); (case l => k_is); (case c => k_is); (case k => k_is)
    have T_unflat : N.Top1At KX mg "unflat" N.sUnflat ["d", "lists"] := by
      refine' N.top1 KX G ?a ?l ?c ?k (fun _ _ _ _ _ _ us hl => match us, hl with | [_, _], _ => rfl)
      (case a => k_is); (case l => k_is); (case c => k_is); (case k => k_is)
    have c_LIMIT : N.CI mg "LIMIT" (-5) := by
      refine' N.ci KX G ?a
      (case a => k_is)
    have c_DATA : N.CI mg "DATA" (-11) := by
      refine' N.ci KX G ?a
      (case a => k_is)
    have c_KIND : N.CI mg "KIND" (-12) := by
      refine' N.ci KX G ?a
      (case a => k_is)
    have c_GREATEST : N.CI mg "GREATEST" 1000000000000000000 := by
      refine' N.ci KX G ?a
      (case a => k_is)
    have c_MOST_RANK : N.CI mg "MOST_RANK" 4 := by
      refine' N.ci KX G ?a
      (case a => k_is)
    have c_MOST_PRODUCT : N.CI mg "MOST_PRODUCT" 256 := by
      refine' N.ci KX G ?a
      (case a => k_is)
    have c_MOST_DEPTH : N.CI mg "MOST_DEPTH" 8 := by
      refine' N.ci KX G ?a
      (case a => k_is)
    have c_MOST_SIZE : N.CI mg "MOST_SIZE" 512 := by
      refine' N.ci KX G ?a
      (case a => k_is)
    have c_OPENING : N.CI mg "OPENING" 91 := by
      refine' N.ci KX G ?a
      (case a => k_is)
    have c_COLON : N.CI mg "COLON" 58 := by
      refine' N.ci KX G ?a
      (case a => k_is)
    have c_CLOSING : N.CI mg "CLOSING" 93 := by
      refine' N.ci KX G ?a
      (case a => k_is)
    have c_LOW : N.CI mg "LOW" 95 := by
      refine' N.ci KX G ?a
      (case a => k_is)
    have c_ZERO : N.CI mg "ZERO" 48 := by
      refine' N.ci KX G ?a
      (case a => k_is)
    have c_BLANK : N.CI mg "BLANK" 32 := by
      refine' N.ci KX G ?a
      (case a => k_is)
    have b_enumerate : mg "enumerate" = none := by
      refine' PySem.W.mg_none_of KX G ?a
      (case a => k_is)
    have b_int : mg "int" = none := by
      refine' PySem.W.mg_none_of KX G ?a
      (case a => k_is)
    have b_isinstance : mg "isinstance" = none := by
      refine' PySem.W.mg_none_of KX G ?a
      (case a => k_is)
    have b_len : mg "len" = none := by
      refine' PySem.W.mg_none_of KX G ?a
      (case a => k_is)
    have b_list : mg "list" = none := by
      refine' PySem.W.mg_none_of KX G ?a
      (case a => k_is)
    have b_max : mg "max" = none := by
      refine' PySem.W.mg_none_of KX G ?a
      (case a => k_is)
    have b_range : mg "range" = none := by
      refine' PySem.W.mg_none_of KX G ?a
      (case a => k_is)
    have b_reversed : mg "reversed" = none := by
      refine' PySem.W.mg_none_of KX G ?a
      (case a => k_is)
    exact N.top_end T_unflat hmg fun base _ _ => by
      have D_Arr := N.ok_ArrInit (P := PySem.Challenge.pw_nestarray_s24_unflat) (w := w) (base := base) T_Arr F_Arr
      have D_vector := N.ok_vector (P := PySem.Challenge.pw_nestarray_s24_unflat) (w := w) (base := base) (CArr := CArr) T_vector b_len D_Arr
      have D_is_number := N.ok_is_number (P := PySem.Challenge.pw_nestarray_s24_unflat) (w := w) (base := base) (CArr := CArr) T_is_number b_int b_isinstance F_Arr A_Arr
      have D_product := N.ok_product (P := PySem.Challenge.pw_nestarray_s24_unflat) (w := w) (base := base) T_product
      have D_is_shape := N.ok_is_shape (P := PySem.Challenge.pw_nestarray_s24_unflat) (w := w) (base := base) T_is_shape c_MOST_PRODUCT c_MOST_RANK b_len D_product
      have D_within_bounds := N.ok_within_bounds (P := PySem.Challenge.pw_nestarray_s24_unflat) (w := w) (base := base) T_within_bounds c_GREATEST
      have D_walk := N.ok_walk (P := PySem.Challenge.pw_nestarray_s24_unflat) (w := w) (base := base) (CArr := CArr) T_walk b_len b_reversed F_Arr D_is_number
      have D_deepest := N.ok_deepest (P := PySem.Challenge.pw_nestarray_s24_unflat) (w := w) (base := base) (CArr := CArr) T_deepest b_max D_is_number
      have D_within_limits := N.ok_within_limits (P := PySem.Challenge.pw_nestarray_s24_unflat) (w := w) (base := base) (CArr := CArr) T_within_limits c_MOST_DEPTH c_MOST_SIZE b_len D_deepest D_walk
      have D_all_shapes := N.ok_all_shapes (P := PySem.Challenge.pw_nestarray_s24_unflat) (w := w) (base := base) (CArr := CArr) T_all_shapes F_Arr D_walk D_is_shape D_is_number
      have D_come_out := N.ok_come_out (P := PySem.Challenge.pw_nestarray_s24_unflat) (w := w) (base := base) (CArr := CArr) (CRef := CRef) T_come_out c_LIMIT R D_all_shapes D_within_limits
      have D_runs_of := N.ok_runs_of (P := PySem.Challenge.pw_nestarray_s24_unflat) (w := w) (base := base) (CArr := CArr) T_runs_of b_len b_range D_vector
      have D_cut_lists := N.ok_cut_lists (P := PySem.Challenge.pw_nestarray_s24_unflat) (w := w) (base := base) (CRef := CRef) T_cut_lists c_DATA b_len b_range R
      have D_look_sums := N.ok_look_sums (P := PySem.Challenge.pw_nestarray_s24_unflat) (w := w) (base := base) (CRef := CRef) T_look_sums c_DATA b_len b_range R
      have D_look_leaves := N.ok_look_leaves (P := PySem.Challenge.pw_nestarray_s24_unflat) (w := w) (base := base) T_look_leaves c_DATA R D_within_bounds
      have D_unflattened := N.ok_unflattened (P := PySem.Challenge.pw_nestarray_s24_unflat) (w := w) (base := base) (CArr := CArr) (CRef := CRef) T_unflattened b_len b_reversed D_vector D_runs_of D_look_sums D_look_leaves D_cut_lists
      have D_digits := N.ok_digits (P := PySem.Challenge.pw_nestarray_s24_unflat) (w := w) (base := base) T_digits c_ZERO b_list b_reversed
      have D_number_text := N.ok_number_text (P := PySem.Challenge.pw_nestarray_s24_unflat) (w := w) (base := base) T_number_text c_LOW D_digits
      have D_extents_text := N.ok_extents_text (P := PySem.Challenge.pw_nestarray_s24_unflat) (w := w) (base := base) T_extents_text c_BLANK b_enumerate D_digits
      have D_value_text := N.ok_value_text (P := PySem.Challenge.pw_nestarray_s24_unflat) (w := w) (base := base) (CArr := CArr) T_value_text c_CLOSING c_BLANK c_COLON c_OPENING F_Arr D_extents_text D_is_number D_number_text
      have D_value_answer := N.ok_value_answer (P := PySem.Challenge.pw_nestarray_s24_unflat) (w := w) (base := base) (CArr := CArr) (CRef := CRef) T_value_answer D_value_text D_come_out
      have D_look_kind := N.ok_look_kind (P := PySem.Challenge.pw_nestarray_s24_unflat) (w := w) (base := base) (CRef := CRef) T_look_kind c_KIND R
      have D_unflat := N.ok_unflat (P := PySem.Challenge.pw_nestarray_s24_unflat) (w := w) (base := base) T_unflat R D_value_answer D_unflattened D_look_kind
      exact D_unflat
  case S =>
    intro K H xs a hO hwi hask hx
    cases hx with
    | cons h1 hx2 =>
      cases hx2 with
      | cons h2 h3 =>
        cases h3
        cases h1 with
        | int k =>
          cases h2 with
          | lst hs2 ha2 =>
            have e := L2.ints_dw a.2.1 _ ha2
            subst e
            have hwi := Bool.and_eq_true_iff.mp hwi
            obtain ⟨hk1, hk2⟩ := N.arg_int hwi.1
            obtain ⟨hl, hr⟩ := N.arg_ints (Bool.and_eq_true_iff.mp hwi.2).1
            obtain ⟨k, l, u⟩ := a
            refine ⟨k, _, l, rfl, hk1, hk2, hs2, hl, hr, fun H' p hp => ?_⟩
            show L2.Dw K H' (.ref p) (.list ((PyVaarrm.unflat k l).map WData.int))
            rw [N.py_is]
            exact .lst (L2.SqL.of hp) (L2.dw_ints _)
#print axioms PySem.Challenge.cw_nestarray_s24_unflat_holds
