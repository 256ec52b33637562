import PyProof.Rows.All
import Wide.All
import OpenK.AllK
import Wide.FinOn
import PyProof.EqAt
import PyProof.EqKinds
import PyProof.TupleCall
import Open.SpecLaws
import KE.OsGo
import PySem.Challenge.RW_nestarray_s01_where
import HandS.ForSpec
import HandS.ExcSuper
import HandS.Iter
import HandS.IsInst
import HandS.Comp
import HandS.Flow
import HandS.Zip
import HandS.Rev
set_option Elab.async false
set_option linter.all false
set_option autoImplicit false
set_option maxRecDepth 100000
set_option maxHeartbeats 4000000
/-! ### The program's own error, Refusal(Exception) with one field: skel/42_own_error_by_import turned to it (the store by ESX.osa_new) -/
namespace PySem
namespace RefX
open PySem.W PySem.Calls PyProof.Rows PySem.HandSPX
/-! ### the text of __init__ -/
def iA (p1 p2 : Pos) : Arguments := { posonlyargs := [], args := [{ arg := "self", annotation := none, pos := p1 }, { arg := "number", annotation := none, pos := p2 }], vararg := none, kwonlyargs := [], kw_defaults := [], kwarg := none, defaults := [] }
def iB (q1 q2 q3 q4 : Pos) : List Stmt := [.Assign [.Attribute (.Name "self" q1) "number" q2] (.Name "number" q3) q4]
def iS : Scope := { kind := .function, names := [(PySem.Str.ofString "self", .local), (PySem.Str.ofString "number", .local)], isGenerator := false, isCoroutine := false, more := [] }
/-- what the written part says of Refusal, at C, and of its own __init__, at fI -/
structure RefTxt (K : Frag) (mg : Str → Option Value) (C fI : Addr) : Prop where
  gC : mg "Refusal" = some (.ref C)
  cls : ∃ nm q N bs sn sub ab col dd k0 k1 k2 k3 k5, K.lookup C = some (excClassObj nm q C N bs PySem.ESX.exTail true sn sub ab col dd k0 k1 k2 k3 k5 "Exception.__new__")
  sa : findIn K (.ref C) "__setattr__" = some (some (.builtin "object.__setattr__"))
  ga : findIn K (.ref C) "__getattribute__" = some (some (.builtin "BaseException.__getattribute__"))
  gg : findIn K (.ref C) "__getattr__" = some none
  noN : findIn K (.ref C) "number" = some none
  iC : findIn K (.ref C) "__init__" = some (some (.ref fI))
  tC : typeIn K (.ref fI) = some (.type "function")
  kC : keepIn K (.ref C) = true
  exC : subIn K (.ref C) (.type "BaseException") = some true
  tyC : typeIn K (.ref C) = some (.type "type")
  hdC : hasDictIn K C = true
  te : exmOne K (.ref C) (.ref C) = some true
  fn : ∃ (oc : Value) (od : Option Addr) (doc pm : Value) (an : Option Addr) (cdv ct : Value) (osl : Array (Option Value)) (p1 p2 q1 q2 q3 q4 : Pos),
    K.lookup fI = some ⟨oc, od, .func (fnOf "__init__" "Refusal.__init__" (iA p1 p2) (iB q1 q2 q3 q4) iS .none .none doc pm an cdv ct), osl⟩ ∧ codeIn K cdv "Refusal.__init__" = true
theorem one_size (v : Value) : [v].length ≤ sizeLine := by
  rw [sizeLine_eq]
  exact (by decide : 1 ≤ 16777216)
theorem kept_but {K : Frag} {h h' : Heap} {x : Addr} (X : K.In h) (hx : K.lookup x = none) (k : ∀ b o, b ≠ x → h.get? b = some o → h'.get? b = some o) : K.In h' := fun a o e =>
  k a o (fun z => by rw [z, hx] at e; cases e) (X a o e)
theorem ldC {M : Model} {s : Shared} {name : Str} {scope : Scope} {L a : Addr} {cd : Value} {m : Str → Option Value} {x : Str} {pos : Pos} {v : Value} {Q : Value → Shared → Prop} {A : Around} {E : Value → Shared → Prop} (hn : s.heap.Ns L m) (hv : m x = some v) (h : Q v s)
    (hk : scope.kind = .function := by rfl) (hl : (envOfC name scope L a cd).kindOf x = some .local := by rfl) (hd : (x == ("__debug__" : Str)) = false := by decide) :
    wpAny M A (eval (.Name x pos) (envOfC name scope L a cd)) Q E s := wpAny_Name (wpAny_loadName_local hk hl hn hv h) hd
/-- what __init__ leaves of a fresh exception at x -/
structure InitEnd (h h' : Heap) (x C dx t1 : Addr) (v : Value) : Prop where
  keep : ∀ b o, b ≠ x → h.get? b = some o → h'.get? b = some o
  obj : h'.get? x = some { cls := .ref C, dict := some dx, data := .fields #[.ref t1, .none, .none, .none, .bool false, .none] }
  dbig : h.objs.size ≤ dx
  dne : dx ≠ x
  ns : h'.Ns1 dx (fun y => if y = "number" then some v else none)
/-- a made Refusal -/
structure OwnMade (h h' : Heap) (e C d : Addr) (v : Value) : Prop where
  keep : ∀ b o, h.get? b = some o → h'.get? b = some o
  new : h.objs.size ≤ e
  obj : ∃ oe vs, h'.get? e = some oe ∧ oe.cls = .ref C ∧ oe.dict = some d ∧ oe.data = .fields vs ∧ vs[1]? = some .none
  dbig : h.objs.size ≤ d
  dne : d ≠ e
  ns : h'.Ns1 d (fun y => if y = "number" then some v else none)
section
variable {prog : Program} {w : World} {A : Around} {E : Value → Shared → Prop} {R : Result → Shared → Prop} {s : Shared} {K : Frag} {mg : Str → Option Value} {C fI : Addr}
theorem ref_init (T : RefTxt K mg C fI) {x t0 : Addr} {v : Value} (X : K.In s.heap) (hlim : s.heap.NoLimit) (hx : s.heap.get? x = some (excO C t0)) (hnx : K.lookup x = none) (hroom : A.depth < recursionLimit)
    (hq : ∀ h' tk dx, InitEnd s.heap h' x C dx t0 v → R (.ok (.ret .none)) { s with heap := h', toks := tk }) :
    codeAny (model prog w) A (.call (.ref fI) ⟨[.ref x, v], []⟩) R s := by
  obtain ⟨oc, od, doc, pm, an, cdv, ct, osl, p1, p2, q1, q2, q3, q4, ho, hcd⟩ := T.fn
  obtain ⟨nm, q, N, bs, sn, sub, ab, col, dd, k0, k1, k2, k3, k5, hC⟩ := T.cls
  have hcl : clsIn K C = some { name := nm, bases := bs, mro := .ref C :: PySem.ESX.exTail, ns := N, qualname := q, hasDict := true, slotNames := sn, subclasses := sub, abstract := ab, collection := col, hasDel := false } := by unfold clsIn; rw [hC] <;> rfl
  refine Att.call_fn (binds := [("self", .ref x), ("number", v)]) X hlim ho hcd hroom (BindsTo.of_eq (by first | rfl | with_unfolding_all rfl)) (by first | rfl | decide | with_unfolding_all rfl) (fun s₁ IC => ?_) rfl rfl rfl
  obtain ⟨h₁, tk₁, rfl⟩ := IC.toInCall.same
  have k : ∀ b o, s.heap.get? b = some o → h₁.get? b = some o := IC.toInCall.keep
  have hn := IC.toInCall.ns
  have hxL : s.heap.objs.size ≠ x := Nat.ne_of_gt (Heap.lt_size hx)
  have X₁ : K.In h₁ := X.keeps k
  have hx₁ := k _ _ hx
  -- self.number = number
  show wpAny _ _ (execs _ _) _ _ _
  refine wpAny_execs_cons (plainObj_wpAny_Assign_Attribute ?_)
  refine ldC (v := v) hn (by first | rfl | with_unfolding_all rfl | kernel_rfl) (ldC (v := .ref x) hn (by first | rfl | with_unfolding_all rfl | kernel_rfl) ?_)
  refine set_plain X₁ (ox := excO C t0) (od := none) ⟨hx₁, rfl, rfl, trivial⟩ T.sa ?_
  refine PySem.ESX.osa_new X₁ hx₁ hcl rfl rfl T.noN (fun h₃ tk₃ dx k₃ dn dne hx₃ hn₃ => ?_)
  show wpAny _ _ (execs _ _) _ _ _
  have z : s.heap.objs.size < h₁.objs.size := hn.lt
  exact wpAny_execs_nil (hq h₃ tk₃ dx ⟨fun b o hb e => k₃ b o hb (k b o e), hx₃, Nat.le_of_lt (Nat.lt_of_lt_of_le z dn), dne, hn₃⟩)
theorem ref_made (T : RefTxt K mg C fI) {v : Value} (X : K.In s.heap) (hlim : s.heap.NoLimit) (hroom : A.depth + 1 < recursionLimit)
    (hq : ∀ h' tk e d, OwnMade s.heap h' e C d v → R (.ok (.ret (.ref e))) { s with heap := h', toks := tk }) :
    codeAny (model prog w) A (.call (.ref C) ⟨[v], []⟩) R s := by
  obtain ⟨nm, q, N, bs, sn, sub, ab, col, dd, k0, k1, k2, k3, k5, hC⟩ := T.cls
  obtain ⟨hp, g, dr, tk, os⟩ := s
  have k : ∀ b o, hp.get? b = some o → ((hp.push (kdv_tup [v])).push (excO C hp.objs.size)).get? b = some o := fun b o e => Heap.get?_push_of_some _ (Heap.get?_push_of_some _ e)
  have hget : ((hp.push (kdv_tup [v])).push (excO C hp.objs.size)).get? (hp.objs.size + 1) = some (excO C hp.objs.size) := by heap_get
  have hnx : K.lookup (hp.objs.size + 1) = none := by
    cases e : K.lookup (hp.objs.size + 1) with
    | none => rfl
    | some o =>
      have z : hp.get? (hp.objs.size + 1) = some o := X _ _ e
      exact absurd (Nat.lt_of_succ_lt (Heap.lt_size z)) (Nat.lt_irrefl _)
  refine call_own F.excBase_Exception (fun _ => rfl) (X _ _ hC) (looks_findIn X T.iC) (fun self => bind_fn X self T.tC) (one_size v) ?_
  refine ref_init (s := ⟨(hp.push (kdv_tup [v])).push (excO C hp.objs.size), g, dr, tk, os⟩) T (X.keeps k) (hlim.keeps k) hget hnx ?_ fun h' tk' dx ⟨k', hx, dn, dne, hns⟩ => ?_
  · show A.depth + 1 < recursionLimit
    exact hroom
  · have old : ∀ b o, hp.get? b = some o → h'.get? b = some o := fun b o e => k' b o (Nat.ne_of_lt (Nat.lt_succ_of_lt (Heap.lt_size e))) (k b o e)
    have z : hp.objs.size + 1 + 1 ≤ dx := by
      first
        | (simpa only [Heap.size_push] using dn)
        | exact dn
        | (have q := dn; rw [Heap.size_push, Heap.size_push] at q; exact q)
    exact ⟨rfl, hq h' tk' (hp.objs.size + 1) dx ⟨old, Nat.le_succ _, ⟨_, _, hx, rfl, rfl, rfl, rfl⟩, Nat.le_trans (Nat.le_trans (Nat.le_succ _) (Nat.le_succ _)) z, dne, hns⟩⟩
end
end RefX
end PySem
namespace L2
open PySem PySem.Spec PyProof.Rows
theorem relO_ref {v : V} {v' : Value} (r : RelV v v') (f : Str) : RelO (List.lookup f [(("number" : Str), v)]) (if f = "number" then some v' else none) := by
  by_cases hw : f = "number"
  · subst hw
    rw [if_pos rfl]
    have q : List.lookup ("number" : Str) [(("number" : Str), v)] = some v := by simp [List.lookup]
    rw [q]
    exact r
  · rw [if_neg hw]
    have qw : (f == ("number" : Str)) = false := by simpa using hw
    have q2 : List.lookup f [(("number" : Str), v)] = none := by simp [List.lookup, qw]
    rw [q2]
    trivial
section
variable {X : Cx} {C fI : Addr}
/-- Refusal(e) -/
def tMkRef (C : Addr) (ta : TA) : St → Hp → XK → Prop := fun σ H Q => ta σ H fun vs H1 => ∃ v, vs = [v] ∧ ∀ d, H1 d = none → Q (.ref C) (some d) (upd H1 d (.xd [(("number" : Str), v)]))
theorem pmk_ref {a : Expr} {ta : TA} {p pos : Pos} {k : Nat} (T : PySem.RefX.RefTxt X.K X.mg C fI) (hr : Room k X.A) (ha : PA X [a] ta) (hg : Gl X "Refusal" := by rfl)
    (he : starEach (a :: []) X.env = (false, eval a X.env) :: starEach [] X.env := by rfl) (hpl : (backTo pos (starEach [] X.env)).any (·.1) = false := by rfl) :
    PMk X (.Call (.Name "Refusal" p) [a] [] pos) (tMkRef C ta) := by
  intro pins s σ H Q I h
  refine wpAny_Call_Name_kw (ld_glob I hg T.gC ?_)
  refine PySem.W.callWith_K (h₀ := X.base) I.ok.mod.kin T.kC (thn (ha.run pos pins s σ H _ I h) fun us s1 hh => ?_) he hpl
  obtain ⟨vs, H1, I1, r1, v, ev, q1⟩ := hh
  subst ev
  refine ⟨I1.kIn, ?_⟩
  cases r1 with
  | cons rv rn =>
    rename_i v' us'
    cases rn
    show wpAny _ _ (call (.ref C) [v']) _ _ _
    have hlim := I1.nolimit
    obtain ⟨hp, g, dr, tk, os⟩ := s1
    refine wpAny_call (PySem.RefX.ref_made T I1.kIn hlim (by have := hr.dp; omega) fun h' tk' e d M => ?_)
    show MkP X pins σ Q (.ref e) ⟨h', g, dr, tk', os⟩
    obtain ⟨oe, fv, hoe, hc, hd, hdat, h1⟩ := M.obj
    have hns := M.ns
    obtain ⟨G', g1, g2⟩ := restrict h' fun b => decide (b ≠ e)
    have gk : ∀ b, b ≠ e → G'.get? b = h'.get? b := fun b hb => g1 b (decide_eq_true hb)
    have ge : G'.get? e = none := g2 e (by simp)
    have old : ∀ b o, hp.get? b = some o → G'.get? b = some o := fun b o q => (gk b (Nat.ne_of_lt (Nat.lt_of_lt_of_le (Heap.lt_size q) M.new))).trans (M.keep b o q)
    have ob : ObjOk X.prog X.w (upd H1 d (.xd [(("number" : Str), v)])) G' d (.xd [(("number" : Str), v)]) :=
      ⟨_, hns.at (fun o q => (gk d M.dne).trans q), fun f => relO_ref rv f⟩
    have J : Inv X pins σ (upd H1 d (.xd [(("number" : Str), v)])) ⟨G', g, dr, tk', os⟩ := I1.laid (t' := tk') old M.dbig ob
    refine ⟨e, oe, fv, ⟨G', g, dr, tk', os⟩, _, .ref C, some d, rfl, J, fun b o q => ?_, ge, hoe, ⟨hc, hd⟩, hdat, h1, ?_, rfl, I1.bare, raises_own T.exC T.tyC, q1 d (I1.hok.fresh M.dbig)⟩
    · by_cases hb : b = e
      · have q' : G'.get? b = some o := q
        rw [hb, ge] at q'; cases q'
      · exact (gk b hb).symm.trans q
    · rw [upd_ne (Ne.symm M.dne)]
      exact I1.hok.fresh M.new
/-- raise Refusal(e) -/
def tRaiseRef (C : Addr) (W : WX) (ta : TA) : TS := fun _ σ H => tMkRef C ta σ H fun cls d H' => W cls d σ H'
theorem ps_raiseRef {a : Expr} {ta : TA} {W : WX} {p pos pos2 : Pos} {k : Nat} (hc : X.calm = true) (T : PySem.RefX.RefTxt X.K X.mg C fI) (hr : Room k X.A) (tk : Takes X W) (ha : PA X [a] ta) (hg : Gl X "Refusal" := by rfl)
    (he : starEach (a :: []) X.env = (false, eval a X.env) :: starEach [] X.env := by rfl) (hpl : (backTo pos (starEach [] X.env)).any (·.1) = false := by rfl) :
    PS X (.Raise (some (.Call (.Name "Refusal" p) [a] [] pos)) none pos2) (tRaiseRef C W ta) := ps_raise hc tk (pmk_ref T hr ha hg he hpl)
/-- e.number, e the exception that the suite holds (at a; its class cls, its dict d) -/
def tNumRef (C : Addr) (a : Addr) (cls : Value) (d : Option Addr) (te : TE) : TE := fun σ H Q => te σ H fun x H1 => x = .ref a ∧ cls = .ref C ∧ ∃ (dd : Addr) (v : V), d = some dd ∧ H1 dd = some (.xd [(("number" : Str), v)]) ∧ Q v H1
theorem pe_numRef {a : Addr} {oe : Obj} {cls : Value} {d : Option Addr} {pn : List (Addr × Obj)} {e : Expr} {te : TE} {pos : Pos} (T : PySem.RefX.RefTxt X.K X.mg C fI) (hz : Zc cls d oe) (hf : ∃ vs, oe.data = .fields vs) (he : PE (X.suite a ((a, oe) :: pn)) e te)
    (hb : attributeBase e "number" X.env (eval e X.env) = eval e X.env := by rfl) :
    PE (X.suite a ((a, oe) :: pn)) (.Attribute e "number" pos) (tNumRef C a cls d te) := by
  refine ⟨fun pins s σ H Q I h => ?_⟩
  refine attr_of hb (thn (he.run pins s σ H _ I h) fun u s1 hh => ?_)
  obtain ⟨x, H1, I1, rx, ex, ec, dd, v, ed, ea, q⟩ := hh
  subst ex
  obtain rfl : u = Value.ref a := rx
  subst ec
  subst ed
  obtain ⟨ha, _⟩ := I1.pin (a, oe) (List.mem_append_left _ List.mem_cons_self)
  obtain ⟨vs, hd⟩ := hf
  have hx : ObjOk X.prog X.w H1 s1.heap dd (.xd [(("number" : Str), v)]) := I1.hok dd _ ea
  obtain ⟨mA, hns, hr⟩ := hx
  obtain ⟨od, ho, hl⟩ := lookIn_ns hns
  have l : List.lookup ("number" : Str) [(("number" : Str), v)] = some v := by simp [List.lookup]
  obtain ⟨u, hu, ru⟩ := RelO.some_of (v := v) (o := mA "number") (by rw [← l]; exact hr "number")
  have J : PySem.W.InstAt s1.heap a oe C (some od) := ⟨ha, hz.1, by unfold PySem.W.notCls; rw [hd] <;> rfl, by rw [hz.2]; exact ho⟩
  exact HandSPX.exc_get I1.kIn J T.ga T.gg T.exC (PySem.W.findObj_own T.hdC T.noN rfl (by rw [hl, hu])) (handed_of ru) ⟨v, H1, I1.tok _, ru, q⟩
end
end L2

/-! ### Words of this proof: what the top has written, defs by name, results -/
namespace N
open PySem L2
/-- a def of the top: its name holds it, its text is st, its parameters are ps -/
structure Top1 (K : PySem.W.Frag) (mg : Str → Option Value) (x : Str) (st : Stmt) (ps : List Str) : Prop where
  ex : ∃ (f : Addr) (fd : FuncData), mg x = some (.ref f) ∧ Fun K x x st f fd ∧ ∀ us : List Value, us.length = ps.length → bindArgs fd ⟨us, []⟩ = pure (ps.zip us)
theorem top1 {K : PySem.W.Frag} {h : Heap} {mg : Str → Option Value} {x : Str} {st : Stmt} {ps : List Str} {f : Addr} {oc : Value} {od an : Option Addr} {osl : Array (Option Value)} {kV doc pm cdv ct : Value} (X : K.In h) (G : h.Ns mainGlobals mg)
    (a : PySem.W.nsIn K mainGlobals x = some (some (.ref f))) (l : K.lookup f = some ⟨oc, od, .func (PySem.W.fnOf x x (defArgs st) (defBody st) (defScope st) .none kV doc pm an cdv ct), osl⟩) (c : PySem.W.codeIn K cdv x = true) (k : PySem.W.keepIn K (.ref f) = true)
    (hb : ∀ (kV doc pm : Value) (an : Option Addr) (cdv ct : Value) (us : List Value), us.length = ps.length → bindArgs (PySem.W.fnOf x x (defArgs st) (defBody st) (defScope st) .none kV doc pm an cdv ct) ⟨us, []⟩ = pure (ps.zip us)) : Top1 K mg x st ps :=
  ⟨⟨f, _, PySem.W.mg_of X G a, fun_mk l c k, hb kV doc pm an cdv ct⟩⟩
/-- a class of the top with an __init__ of its own -/
structure TopC (K : PySem.W.Frag) (mg : Str → Option Value) (x q : Str) (st : Stmt) (ps : List Str) (C : Addr) : Prop where
  mgC : mg x = some (.ref C)
  cl : Cls K C
  ex : ∃ (f : Addr) (fd : FuncData), Mk K C f ∧ Fun K "__init__" q st f fd ∧ Binds K fd ps []
theorem topC {K : PySem.W.Frag} {h : Heap} {mg : Str → Option Value} {x q : Str} {st : Stmt} {ps : List Str} {C f : Addr} {oc : Value} {od an : Option Addr} {osl : Array (Option Value)} {kV doc pm cdv ct : Value} (X : K.In h) (G : h.Ns mainGlobals mg)
    (aC : PySem.W.nsIn K mainGlobals x = some (some (.ref C))) (pg : PySem.W.plainGet K C Str.empty = true) (hd : PySem.W.hasDictIn K C = true) (po : PySem.W.plainOver K C = true) (sa : PySem.W.findIn K (.ref C) "__setattr__" = some (some (.builtin "object.__setattr__")))
    (mk : PySem.W.makesIn K C = true) (kc : PySem.W.keepIn K (.ref C) = true) (a : PySem.W.findIn K (.ref C) "__init__" = some (some (.ref f))) (i : PySem.W.isFn K (.ref f) = true)
    (l : K.lookup f = some ⟨oc, od, .func (PySem.W.fnOf "__init__" q (defArgs st) (defBody st) (defScope st) .none kV doc pm an cdv ct), osl⟩) (c : PySem.W.codeIn K cdv q = true) (k : PySem.W.keepIn K (.ref f) = true)
    (hb : ∀ (kV doc pm : Value) (an : Option Addr) (cdv ct : Value) (us : List Value), us.length = ps.length → bindArgs (PySem.W.fnOf "__init__" q (defArgs st) (defBody st) (defScope st) .none kV doc pm an cdv ct) ⟨us, []⟩ = pure (ps.zip us)) : TopC K mg x q st ps C :=
  ⟨PySem.W.mg_of X G aC, ⟨pg, hd, po, sa⟩, ⟨f, _, ⟨mk, a, i, kc⟩, fun_mk l c k, (fun_mk l c k).binds hb⟩⟩
/-- a class whose instances' fields are read -/
structure ClF (K : PySem.W.Frag) (C : Addr) (fs : List Str) : Prop where
  cl : Cls K C
  no : ∀ f ∈ fs, NoAttr K C f
theorem clf_nil {K : PySem.W.Frag} {C : Addr} (c : Cls K C) : ClF K C [] := ⟨c, fun f h => absurd h (by simp)⟩
theorem clf_cons {K : PySem.W.Frag} {C : Addr} {f : Str} {fs : List Str} (h : PySem.W.findIn K (.ref C) f = some none) (r : ClF K C fs) : ClF K C (f :: fs) := ⟨r.cl, fun g m => by
  rcases List.mem_cons.mp m with e | m
  · rw [e]; exact h
  · exact r.no g m⟩
/-- a constant: a whole number -/
def CI (mg : Str → Option Value) (x : Str) (n : Int) : Prop := ∃ t, mg x = some (.int n t)
theorem ci {K : PySem.W.Frag} {h : Heap} {mg : Str → Option Value} {x : Str} {n : Int} {t : Tok} (X : K.In h) (G : h.Ns mainGlobals mg) (a : PySem.W.nsIn K mainGlobals x = some (some (.int n t))) : CI mg x n := ⟨t, PySem.W.mg_of X G a⟩
/-- a constant: a tuple of whole numbers -/
def CT (K : PySem.W.Frag) (mg : Str → Option Value) (x : Str) (ns : List Int) : Prop := ∃ a, mg x = some (.ref a) ∧ ∀ H : Hp, SqT K H a (ns.map V.int)
theorem ct4 {K : PySem.W.Frag} {h : Heap} {mg : Str → Option Value} {x : Str} {a : Addr} {dd : Option Addr} {n : Nat} {sl : Array (Option Value)} {k1 k2 k3 k4 : Int} {t1 t2 t3 t4 : Tok} (X : K.In h) (G : h.Ns mainGlobals mg) (e : PySem.W.nsIn K mainGlobals x = some (some (.ref a)))
    (l : K.lookup a = some ⟨.type "tuple", dd, .seq #[.int k1 t1, .int k2 t2, .int k3 t3, .int k4 t4] n, sl⟩) : CT K mg x [k1, k2, k3, k4] :=
  ⟨a, PySem.W.mg_of X G e, fun H => .inr ⟨_, _, n, l, rfl, rfl, by show 4 ≤ sizeLine; decide, .cons ⟨_, rfl⟩ (.cons ⟨_, rfl⟩ (.cons ⟨_, rfl⟩ (.cons ⟨_, rfl⟩ .nil)))⟩⟩
theorem ct3 {K : PySem.W.Frag} {h : Heap} {mg : Str → Option Value} {x : Str} {a : Addr} {dd : Option Addr} {n : Nat} {sl : Array (Option Value)} {k1 k2 k3 : Int} {t1 t2 t3 : Tok} (X : K.In h) (G : h.Ns mainGlobals mg) (e : PySem.W.nsIn K mainGlobals x = some (some (.ref a)))
    (l : K.lookup a = some ⟨.type "tuple", dd, .seq #[.int k1 t1, .int k2 t2, .int k3 t3] n, sl⟩) : CT K mg x [k1, k2, k3] :=
  ⟨a, PySem.W.mg_of X G e, fun H => .inr ⟨_, _, n, l, rfl, rfl, by show 3 ≤ sizeLine; decide, .cons ⟨_, rfl⟩ (.cons ⟨_, rfl⟩ (.cons ⟨_, rfl⟩ .nil))⟩⟩

/-- the same, K told by what stands -/
abbrev Top1At {K : PySem.W.Frag} {h : Heap} (_ : K.In h) := Top1 K
abbrev TopCAt {K : PySem.W.Frag} {h : Heap} (_ : K.In h) := TopC K
abbrev ClFAt {K : PySem.W.Frag} {h : Heap} (_ : K.In h) := ClF K
abbrev CTAt {K : PySem.W.Frag} {h : Heap} (_ : K.In h) := CT K
/-- the def of this name keeps the promise sp, by at most level k -/
structure Def (P : Program) (w : World) (K : PySem.W.Frag) (mg : Str → Option Value) (base : Heap) (CX : CXT) (x : Str) (k : Nat) (ps : List Str) (sp : Sp) : Prop where
  ex : ∃ (f : Addr) (fd : FuncData), mg x = some (.ref f) ∧ PySem.W.keepIn K (.ref f) = true ∧ Binds K fd ps [] ∧ (∃ (oc : Value) (od : Option Addr) (osl : Array (Option Value)), K.lookup f = some ⟨oc, od, .func fd, osl⟩) ∧ FnOk P w K mg base CX k f fd ps sp
section
variable {P : Program} {w : World} {K : PySem.W.Frag} {mg : Str → Option Value} {base : Heap}
theorem Def.mono {CX : CXT} {x : Str} {j k : Nat} {ps : List Str} {sp : Sp} (d : Def P w K mg base CX x j ps sp) (h : j ≤ k) : Def P w K mg base CX x k ps sp := by
  obtain ⟨f, fd, a, b, c, l, e⟩ := d.ex
  exact ⟨⟨f, fd, a, b, c, l, e.mono h⟩⟩
theorem _root_.L2.Fun.there {x qual : Str} {st : Stmt} {f : Addr} {fd : FuncData} (F : Fun K x qual st f fd) : ∃ (oc : Value) (od : Option Addr) (osl : Array (Option Value)), K.lookup f = some ⟨oc, od, .func fd, osl⟩ := by
  obtain ⟨oc, od, kV, doc, pm, an, cdv, ct, osl, rfl, lk, hcd⟩ := F.ex
  exact ⟨oc, od, osl, lk⟩
/-- a def that raises nothing: its body's walk -/
theorem Top1.ok {x : Str} {st : Stmt} {L ps : List Str} {k : Nat} {sp : Sp} (T : Top1 K mg x st ps) (S : FnScope L ps (defScope st)) (len : ∀ vs H Q E, sp vs H Q E → vs.length = ps.length)
    (hbody : ∀ (f : Addr) (cdv : Value) (A : Around) (outer : List Env) (s : Shared) (H : Hp) (vs : List V) (Q : VK) (E : XK), Room k (A.deeper (PyProof.Rows.envOfC x (defScope st) s.heap.objs.size f cdv)) → sp vs H Q E →
      ∃ t, PSs (cxOf CX0 P w K mg base L x (defScope st) f cdv A outer s H E).nox (defBody st) t ∧ t { nx := fun _ H' => Q .non H', rt := Q } (start L vs) H) : Def P w K mg base CX0 x (k + 1) ps sp := by
  obtain ⟨f, fd, a, F, b⟩ := T.ex
  exact ⟨⟨f, fd, a, F.kp, Binds.all b, F.there, F.ok S len (hbody f)⟩⟩
/-- a def that may raise -/
theorem Top1.okX {x : Str} {st : Stmt} {L ps : List Str} {k : Nat} {sp : Sp} (T : Top1 K mg x st ps) (S : FnScope L ps (defScope st)) (len : ∀ vs H Q E, sp vs H Q E → vs.length = ps.length)
    (hbody : ∀ (f : Addr) (cdv : Value) (A : Around) (outer : List Env) (s : Shared) (H : Hp) (vs : List V) (Q : VK) (E : XK), Room k (A.deeper (PyProof.Rows.envOfC x (defScope st) s.heap.objs.size f cdv)) → sp vs H Q E →
      ∃ t, PSs (cxOf (L2.CX P w) P w K mg base L x (defScope st) f cdv A outer s H E) (defBody st) t ∧ t { nx := fun _ H' => Q .non H', rt := Q } (start L vs) H) : Def P w K mg base (L2.CX P w) x (k + 1) ps sp := by
  obtain ⟨f, fd, a, F, b⟩ := T.ex
  exact ⟨⟨f, fd, a, F.kp, Binds.all b, F.there, F.okX S len (hbody f)⟩⟩
/-- a class whose __init__ keeps sp, by at most level k -/
structure DefC (P : Program) (w : World) (K : PySem.W.Frag) (mg : Str → Option Value) (base : Heap) (x : Str) (C : Addr) (k : Nat) (ps : List Str) (sp : Sp) : Prop where
  mgC : mg x = some (.ref C)
  ex : ∃ (f : Addr) (fd : FuncData), Mk K C f ∧ Binds K fd ps [] ∧ FnOk P w K mg base CX0 k f fd ps sp
theorem TopC.ok {x q : Str} {st : Stmt} {C : Addr} {L ps : List Str} {k : Nat} {sp : Sp} (T : TopC K mg x q st ps C) (S : FnScope L ps (defScope st)) (len : ∀ vs H Q E, sp vs H Q E → vs.length = ps.length)
    (hbody : ∀ (f : Addr) (cdv : Value) (A : Around) (outer : List Env) (s : Shared) (H : Hp) (vs : List V) (Q : VK) (E : XK), Room k (A.deeper (PyProof.Rows.envOfC q (defScope st) s.heap.objs.size f cdv)) → sp vs H Q E →
      ∃ t, PSs (cxOf CX0 P w K mg base L q (defScope st) f cdv A outer s H E).nox (defBody st) t ∧ t { nx := fun _ H' => Q .non H', rt := Q } (start L vs) H) : DefC P w K mg base x C (k + 1) ps sp := by
  obtain ⟨f, fd, a, F, b⟩ := T.ex
  exact ⟨T.mgC, f, fd, a, b, F.ok S len (hbody f)⟩
end

section
variable {X : Cx} {CX : CXT} {k : Nat} {x : Str} {ps : List Str} {sp : Sp} {p pos : Pos} {e : Expr} {es : List Expr} {t : TA} {E : XK} {C : Addr}
/-- a call of a def by its name -/
theorem pe_fn (d : Def X.prog X.w X.K X.mg X.base CX x k ps sp) (hr : Room k X.A) (hx : Passes CX X E) (ha : PA X (e :: es) t) (hg : Gl X x := by rfl)
    (hdb : (x == ("__debug__" : Str)) = false := by decide) (he : starEach (e :: es) X.env = (false, eval e X.env) :: starEach es X.env := by rfl) (hpl : (backTo pos (starEach es X.env)).any (·.1) = false := by rfl) :
    PE X (.Call (.Name x p) (e :: es) [] pos) (tCall sp [] E t) := by
  obtain ⟨f, fd, a, b, c, _, F⟩ := d.ex
  exact pe_call F hr hg a b c .nil hx ha hdb he hpl
/-- a call where what is raised is wished for at the caller's slots -/
theorem pe_fnS {W : WX} (d : Def X.prog X.w X.K X.mg X.base (L2.CX X.prog X.w) x k ps sp) (hr : Room k X.A) (tk : Takes X W) (ha : PA X (e :: es) t) (hg : Gl X x := by rfl)
    (hdb : (x == ("__debug__" : Str)) = false := by decide) (he : starEach (e :: es) X.env = (false, eval e X.env) :: starEach es X.env := by rfl) (hpl : (backTo pos (starEach es X.env)).any (·.1) = false := by rfl) :
    PE X (.Call (.Name x p) (e :: es) [] pos) (tCallS sp (WE W) t) := by
  obtain ⟨f, fd, a, b, c, _, F⟩ := d.ex
  exact pe_callS F hr hg a b c (fun σ => passAt tk σ) ha hdb he hpl
/-- an instance is made -/
theorem pe_new (d : DefC X.prog X.w X.K X.mg X.base x C k ps sp) (hr : Room (k + 1) X.A) (ha : PA X (e :: es) t) (hg : Gl X x := by rfl)
    (hdb : (x == ("__debug__" : Str)) = false := by decide) (he : starEach (e :: es) X.env = (false, eval e X.env) :: starEach es X.env := by rfl) (hpl : (backTo pos (starEach es X.env)).any (·.1) = false := by rfl) :
    PE X (.Call (.Name x p) (e :: es) [] pos) (tMake C sp [] E0 t) := by
  obtain ⟨f, fd, m, b, F⟩ := d.ex
  exact pe_make m F hr hg d.mgC b .nil pass0 ha hdb he hpl
/-- a constant's name -/
theorem pe_ci {n : Int} (c : CI X.mg x n) (hg : Gl X x := by rfl) (hd : (x == ("__debug__" : Str)) = false := by decide) : PE X (.Name x pos) (tC (.int n)) := by
  obtain ⟨t, h⟩ := c
  exact pe_glob hg h ⟨t, rfl⟩ hd
/-- a constant tuple's name -/
def tCT (K : PySem.W.Frag) (ns : List Int) : TE := fun _ H Q => ∀ a, (∀ H : Hp, SqT K H a (ns.map V.int)) → Q (.ref a) H
theorem pe_ct {ns : List Int} (c : CT X.K X.mg x ns) (hg : Gl X x := by rfl) (hd : (x == ("__debug__" : Str)) = false := by decide) : PE X (.Name x pos) (tCT X.K ns) := by
  obtain ⟨a, h, q⟩ := c
  refine ⟨fun pins s σ H Q I hw => ?_⟩
  exact (pe_glob hg h (v := .ref a) rfl hd).run pins s σ H Q I (hw a q)
end

/-! ### results -/
/-- a refusal with number n leaves: E at some later heap -/
def Fails (C : Addr) (E : XK) (H : Hp) (n : Int) : Prop := ∀ (d : Addr) (H' : Hp), Same H H' → H' d = some (.xd [(("number" : Str), .int n)]) → E (.ref C) (some d) H'
/-- what a def answers: a value that stands for x, or the refusal -/
def Out {α : Type} (C : Addr) (Q : VK) (E : XK) (H : Hp) (R : α → V → Hp → Prop) : Except Int α → Prop
  | .ok x => ∀ (v : V) (H' : Hp), Same H H' → R x v H' → Q v H'
  | .error n => Fails C E H n
/-- a value alone, no refusal -/
def Got (Q : VK) (H : Hp) (R : V → Hp → Prop) : Prop := ∀ (v : V) (H' : Hp), Same H H' → R v H' → Q v H'
theorem Got.back {Q : VK} {H H1 : Hp} {R : V → Hp → Prop} (e : Same H H1) (g : Got Q H R) : Got Q H1 R := fun v H' a r => g v H' (e.trans a) r
theorem Fails.back {C : Addr} {E : XK} {H H1 : Hp} {n : Int} (e : Same H H1) (g : Fails C E H n) : Fails C E H1 n := fun d H' a r => g d H' (e.trans a) r
theorem same_new {H : Hp} {p : Addr} (h : H p = none) (o : HO) : Same H (upd H p o) := fun b u q => by rw [upd_ne (ne_of_none q h)]; exact q
/-- an object that H does not know changes -/
theorem Same.mut {H H' : Hp} {p : Addr} {o : HO} (e : Same H H') (h : H p = none) : Same H (upd H' p o) := fun a u ha => by
  rw [upd_ne (ne_of_none ha h)]
  exact e a u ha
theorem getI {ns : List Int} {i : Nat} {y : V} (h : (ns.map V.int)[i]? = some y) : ∃ z, ns[i]? = some z ∧ y = V.int z := by
  rw [List.getElem?_map] at h
  cases e : ns[i]? with
  | none =>
    rw [e] at h
    cases h
  | some z =>
    rw [e] at h
    exact ⟨z, rfl, (Option.some.inj h).symm⟩
theorem atI_int {ns : List Int} {i : Int} {z : Int} (h0 : 0 ≤ i) (h : ns[i.toNat]? = some z) : atI (ns.map V.int) i = some (.int z) := by
  have e : i = ((i.toNat : Nat) : Int) := by omega
  rw [e]
  refine atI_nat ?_
  rw [List.getElem?_map, h]
  rfl
theorem itT {c A B : Prop} [Decidable c] (hc : c) (h : A) : if decide c = true then A else B := by
  rw [if_pos (decide_eq_true hc)]
  exact h
theorem itF {c A B : Prop} [Decidable c] (hc : ¬ c) (h : B) : if decide c = true then A else B := by
  rw [if_neg (fun z => hc (of_decide_eq_true z))]
  exact h
theorem ifT {b : Bool} {A B : Prop} (hc : b = true) (h : A) : if b = true then A else B := by
  rw [if_pos hc]
  exact h
theorem ifF {b : Bool} {A B : Prop} (hc : b = false) (h : B) : if b = true then A else B := by
  rw [if_neg (by rw [hc]; exact Bool.false_ne_true)]
  exact h
end N
/-! ### the end: from the promise of the row's def to the row -/
namespace N
open PySem L2
theorem exm_self {K : PySem.W.Frag} {S : Addr} (h1 : PySem.W.subIn K (.ref S) (.type "BaseException") = some true) (h2 : PySem.W.isClsIn K S = true) (h3 : PySem.W.typeIn K (.ref S) = some (.type "type")) (h4 : PySem.W.subIn K (.ref S) (.ref S) = some true) :
    PySem.W.exmOne K (.ref S) (.ref S) = some true := by
  have e1 : (PySem.W.subIn K (.ref S) (.type "BaseException") == some true) = true := by rw [h1] <;> rfl
  have e2 : ((PySem.W.clsIn K S).isSome && PySem.W.typeIn K (.ref S) == some (.type "type")) = true := by
    have h2' : (PySem.W.clsIn K S).isSome = true := h2
    rw [h2', h3] <;> rfl
  show (if (PySem.W.subIn K (.ref S) (.type "BaseException") == some true) = true then (if ((PySem.W.clsIn K S).isSome && PySem.W.typeIn K (.ref S) == some (.type "type")) = true then PySem.W.subIn K (.ref S) (.ref S) else none) else none) = some true
  rw [if_pos e1, if_pos e2]
  exact h4
abbrev RefTxtAt {K : PySem.W.Frag} {h : Heap} (_ : K.In h) := PySem.RefX.RefTxt K
theorem refTxt {K : PySem.W.Frag} {h : Heap} {mg : Str → Option Value} {C f1 : Addr} (X : K.In h) (G : h.Ns mainGlobals mg) {nm q : Str} {N : Addr} {bs : List Value} {sn : List Str} {sub : List Value} {ab : Bool} {col : Option Bool} {dd : Option Addr} {m0 m1 m2 m3 m5 : Option Value}
    {od1 an1 : Option Addr} {sl1 : Array (Option Value)} {oc1 dc1 pm1 cd1 ct1 : Value} {p1 p2 q1 q2 q3 q4 : Pos}
    (aC : PySem.W.nsIn K mainGlobals "Refusal" = some (some (.ref C)))
    (xL : K.lookup C = some (excClassObj nm q C N bs [.type "Exception", .type "BaseException", .type "object"] true sn sub ab col dd m0 m1 m2 m3 m5 "Exception.__new__"))
    (sa : PySem.W.findIn K (.ref C) "__setattr__" = some (some (.builtin "object.__setattr__"))) (ga : PySem.W.findIn K (.ref C) "__getattribute__" = some (some (.builtin "BaseException.__getattribute__"))) (gg : PySem.W.findIn K (.ref C) "__getattr__" = some none) (nb : PySem.W.findIn K (.ref C) "number" = some none)
    (a1 : PySem.W.findIn K (.ref C) "__init__" = some (some (.ref f1))) (t1 : PySem.W.typeIn K (.ref f1) = some (.type "function"))
    (l1 : K.lookup f1 = some ⟨oc1, od1, .func (PySem.W.fnOf "__init__" "Refusal.__init__" (PySem.RefX.iA p1 p2) (PySem.RefX.iB q1 q2 q3 q4) PySem.RefX.iS .none .none dc1 pm1 an1 cd1 ct1), sl1⟩) (c1 : PySem.W.codeIn K cd1 "Refusal.__init__" = true)
    (kC : PySem.W.keepIn K (.ref C) = true) (eC : PySem.W.subIn K (.ref C) (.type "BaseException") = some true) (tC : PySem.W.typeIn K (.ref C) = some (.type "type")) (hC : PySem.W.hasDictIn K C = true) (iC : PySem.W.isClsIn K C = true) (sC : PySem.W.subIn K (.ref C) (.ref C) = some true) : PySem.RefX.RefTxt K mg C f1 :=
  { gC := PySem.W.mg_of X G aC, cls := ⟨nm, q, N, bs, sn, sub, ab, col, dd, m0, m1, m2, m3, m5, xL⟩, sa := sa, ga := ga, gg := gg, noN := nb, iC := a1, tC := t1, kC := kC, exC := eC, tyC := tC, hdC := hC, te := exm_self eC iC tC sC, fn := ⟨_, _, _, _, _, _, _, _, _, _, _, _, _, _, l1, c1⟩ }
theorem top_end {P : Program} {w : World} {K : PySem.W.Frag} {mg : Str → Option Value} {x : Str} {st : Stmt} {ps : List Str} {k : Nat} {sp : Sp} {fa : Addr} (T : Top1 K mg x st ps) (hfa : mg x = some (.ref fa))
    (D : ∀ base : Heap, K.In base → base.Ns mainGlobals mg → Def P w K mg base CX0 x k ps sp) :
    ∃ fd : FuncData, (∀ (s : Shared) (us : List Value), us.length = ps.length → BindsTo s fd ⟨us, []⟩ (ps.zip us)) ∧ ∀ base : Heap, K.In base → base.Ns mainGlobals mg → FnOk P w K mg base CX0 k fa fd ps sp := by
  obtain ⟨f, fd, a, F, b⟩ := T.ex
  have e := hfa.symm.trans a
  cases e
  refine ⟨fd, fun s us hu => .of_eq (b us hu), fun base h1 h2 => ?_⟩
  obtain ⟨f', fd', a', k', b', ⟨oc, od, osl, lk⟩, ok⟩ := (D base h1 h2).ex
  have e := a.symm.trans a'
  cases e
  obtain ⟨oc2, od2, kV, doc, pm, an, cdv, ct, osl2, e2, lk2, _⟩ := F.ex
  have e3 := lk.symm.trans lk2
  injection e3 with e4
  injection e4 with _ _ e5 _
  injection e5 with e6
  subst e6
  exact ok
/-- arguments: bytes, whole numbers -/
theorem arg_bytes {m : Nat} {ns : List Int} (h : PySem.W.Codec.within (.list 0 m (.int (Int.ofNat 0) (Int.ofNat 255))) ns = true) : ∃ t : List Nat, ns = t.map (fun (n : Nat) => (n : Int)) ∧ t.length ≤ m ∧ ∀ c ∈ t, c ≤ 255 := by
  have h : (PySem.W.Codec.inLen 0 m ns && ns.all (PySem.W.Codec.inInt (Int.ofNat 0) (Int.ofNat 255))) = true := h
  obtain ⟨h1, h2⟩ := Bool.and_eq_true_iff.mp h
  have h1 : (decide (0 ≤ ns.length) && decide (ns.length ≤ m)) = true := h1
  have hl : ns.length ≤ m := of_decide_eq_true (Bool.and_eq_true_iff.mp h1).2
  have hall : ∀ n ∈ ns, (0 : Int) ≤ n ∧ n ≤ 255 := fun n hn => by
    have q : (decide ((0 : Int) ≤ n) && decide (n ≤ 255)) = true := List.all_eq_true.mp h2 n hn
    obtain ⟨a, b⟩ := Bool.and_eq_true_iff.mp q
    exact ⟨of_decide_eq_true a, of_decide_eq_true b⟩
  refine ⟨ns.map Int.toNat, ?_, by rw [List.length_map]; exact hl, fun c hc => ?_⟩
  · rw [List.map_map]
    conv => lhs; rw [← List.map_id ns]
    exact List.map_congr_left fun n hn => by
      have := (hall n hn).1
      show n = ((n.toNat : Nat) : Int)
      omega
  · obtain ⟨n, hn, rfl⟩ := List.mem_map.mp hc
    have := hall n hn
    omega
theorem arg_ints {m : Nat} {lo hi : Int} {ns : List Int} (h : PySem.W.Codec.within (.list 0 m (.int lo hi)) ns = true) : ns.length ≤ m ∧ ∀ n ∈ ns, lo ≤ n ∧ n ≤ hi := by
  have h : (PySem.W.Codec.inLen 0 m ns && ns.all (PySem.W.Codec.inInt lo hi)) = true := h
  obtain ⟨h1, h2⟩ := Bool.and_eq_true_iff.mp h
  have h1 : (decide (0 ≤ ns.length) && decide (ns.length ≤ m)) = true := h1
  refine ⟨of_decide_eq_true (Bool.and_eq_true_iff.mp h1).2, fun n hn => ?_⟩
  have q : (decide (lo ≤ n) && decide (n ≤ hi)) = true := List.all_eq_true.mp h2 n hn
  obtain ⟨a, b⟩ := Bool.and_eq_true_iff.mp q
  exact ⟨of_decide_eq_true a, of_decide_eq_true b⟩
theorem arg_int {lo hi n : Int} (h : PySem.W.Codec.within (.int lo hi) n = true) : lo ≤ n ∧ n ≤ hi := by
  have q : (decide (lo ≤ n) && decide (n ≤ hi)) = true := h
  obtain ⟨a, b⟩ := Bool.and_eq_true_iff.mp q
  exact ⟨of_decide_eq_true a, of_decide_eq_true b⟩
theorem text_ok {t : List Nat} (h : ∀ c ∈ t, c ≤ 255) : VaarrmNeutral.text (t.map fun (n : Nat) => (n : Int)) = some t := by
  unfold VaarrmNeutral.text
  have e : NeutralIO.bytes (t.map fun (n : Nat) => (n : Int)) = true := by
    unfold NeutralIO.bytes
    rw [List.all_eq_true]
    intro n hn
    obtain ⟨c, hc, rfl⟩ := List.mem_map.mp hn
    have := h c hc
    simp only [Bool.and_eq_true, decide_eq_true_eq]
    omega
  rw [if_pos e, List.map_map]
  congr 1
  conv => rhs; rw [← List.map_id t]
  exact List.map_congr_left fun n _ => by
    show ((n : Int)).toNat = n
    exact Int.toNat_natCast n
end N
/-! ### Plain Lean: a text's places, blanks, digits -/
namespace N
/-- how many at the head fulfil p -/
def runLen {α : Type} (p : α → Bool) (l : List α) : Nat := (l.takeWhile p).length
theorem runLen_le {α : Type} (p : α → Bool) : ∀ l : List α, runLen p l ≤ l.length
  | [] => Nat.le_refl _
  | a :: l => by
    unfold runLen
    by_cases h : p a = true
    · rw [List.takeWhile_cons_of_pos h]
      exact Nat.succ_le_succ (runLen_le p l)
    · rw [List.takeWhile_cons_of_neg h]
      exact Nat.zero_le _
/-- i at the head do, the next one doesn't -/
theorem runLen_stop {α : Type} (p : α → Bool) : ∀ (l : List α) (i : Nat) (x : α), (∀ j y, j < i → l[j]? = some y → p y = true) → l[i]? = some x → p x = false → runLen p l = i
  | [], i, x, _, h, _ => by simp at h
  | a :: l, 0, x, _, h, hx => by
    have e : a = x := Option.some.inj h
    subst e
    unfold runLen
    rw [List.takeWhile_cons_of_neg (by rw [hx]; exact Bool.false_ne_true)]
    rfl
  | a :: l, i + 1, x, ha, h, hx => by
    have h0 : p a = true := ha 0 a (Nat.succ_pos _) rfl
    have ih := runLen_stop p l i x (fun j y hj e => ha (j + 1) y (Nat.succ_lt_succ hj) e) h hx
    unfold runLen at ih ⊢
    rw [List.takeWhile_cons_of_pos h0, List.length_cons, ih]
theorem runLen_all {α : Type} (p : α → Bool) : ∀ (l : List α), (∀ j y, j < l.length → l[j]? = some y → p y = true) → runLen p l = l.length
  | [], _ => rfl
  | a :: l, ha => by
    have h0 : p a = true := ha 0 a (Nat.succ_pos _) rfl
    have ih := runLen_all p l fun j y hj e => ha (j + 1) y (Nat.succ_lt_succ hj) e
    unfold runLen at ih ⊢
    rw [List.takeWhile_cons_of_pos h0, List.length_cons, List.length_cons, ih]
def isBlank (c : Nat) : Bool := c == 32 || (c == 9 || (c == 10 || c == 13))
def isDigit (c : Nat) : Bool := decide (48 ≤ c ∧ c ≤ 57)
/-- the number that digits tell, held at most at 10^18 + 1 -/
def held (n : Int) : Int := if 1000000000000000001 < n then 1000000000000000001 else n
def heldNum (l : List Nat) : Int := l.foldl (fun (n : Int) (c : Nat) => held (n * 10 + (c : Int) - 48)) 0
end N
namespace N
open PySem L2
def top (i : Nat) : Stmt := PySem.Challenge.pw_nestarray_s01_where.main.body.getD i (.Pass ⟨0, 0, 0, 0⟩)
abbrev sRefusalInit : Stmt := inClass (top 2) 0
abbrev sTokenInit : Stmt := inClass (top 21) 0
abbrev sSkipBlanks : Stmt := top 22
abbrev sDigitsEnd : Stmt := top 23
abbrev sDigitsNumber : Stmt := top 24
abbrev sGoodDigits : Stmt := top 25
abbrev sReadNumber : Stmt := top 26
abbrev sReadToken : Stmt := top 27
abbrev sStateAfterNumber : Stmt := top 28
abbrev sStateAfterClosing : Stmt := top 29
abbrev sAdvance : Stmt := top 30
abbrev sScan : Stmt := top 31
abbrev sLookLong : Stmt := top 34
abbrev sWhere : Stmt := top 36
end N
namespace N
open PySem L2
/-- the values of a text -/
def Bs (t : List Nat) : List V := t.map fun (n : Nat) => V.int (n : Int)
theorem Bs_map (t : List Nat) : (t.map fun (n : Nat) => (n : Int)).map V.int = Bs t := by
  rw [List.map_map]
  rfl
theorem Bs_len (t : List Nat) : (Bs t).length = t.length := List.length_map _
theorem Bs_at {t : List Nat} {i : Nat} {c : Nat} (h : t[i]? = some c) : (Bs t)[i]? = some (.int (c : Int)) := by
  unfold Bs
  rw [List.getElem?_map, h]
  rfl
theorem Bs_atI {t : List Nat} {i : Int} {c : Nat} (h0 : 0 ≤ i) (h : t[i.toNat]? = some c) : atI (Bs t) i = some (.int (c : Int)) := by
  have e : i = ((i.toNat : Nat) : Int) := by omega
  rw [e]
  exact atI_nat (Bs_at h)
theorem eqV_nat (c k : Nat) : eqV (.int (k : Int)) (.int (c : Int)) = (c == k) := by
  show ((k : Int) == (c : Int)) = (c == k)
  by_cases h : c = k
  · subst h
    rw [beq_self_eq_true, beq_self_eq_true]
  · rw [beq_eq_false_iff_ne.mpr h, beq_eq_false_iff_ne.mpr (fun z => h (Int.ofNat_inj.mp z.symm))]
theorem blank_in (c : Nat) : inV (.int (c : Int)) (([32, 9, 10, 13] : List Int).map V.int) = isBlank c := by
  show (eqV (.int ((32 : Nat) : Int)) (.int (c : Int)) || (eqV (.int ((9 : Nat) : Int)) (.int (c : Int)) || (eqV (.int ((10 : Nat) : Int)) (.int (c : Int)) || (eqV (.int ((13 : Nat) : Int)) (.int (c : Int)) || false)))) = _
  rw [eqV_nat, eqV_nat, eqV_nat, eqV_nat, Bool.or_false]
  rfl
theorem sign_in (c : Nat) : inV (.int (c : Int)) (([91, 58, 93] : List Int).map V.int) = (c == 91 || (c == 58 || c == 93)) := by
  show (eqV (.int ((91 : Nat) : Int)) (.int (c : Int)) || (eqV (.int ((58 : Nat) : Int)) (.int (c : Int)) || (eqV (.int ((93 : Nat) : Int)) (.int (c : Int)) || false))) = _
  rw [eqV_nat, eqV_nat, eqV_nat, Bool.or_false]
theorem at_shift {t : List Nat} {k i : Nat} (h : k + i < t.length) : t[((k : Int) + (i : Int)).toNat]? = some t[k + i] ∧ (t.drop k)[i]? = some t[k + i] := by
  refine ⟨?_, ?_⟩
  · rw [show ((k : Int) + (i : Int)).toNat = k + i by omega]
    exact List.getElem?_eq_getElem h
  · rw [List.getElem?_drop]
    exact List.getElem?_eq_getElem h
theorem all_more {α : Type} {p : α → Bool} {l : List α} {i : Nat} {x : α} (h : l[i]? = some x) (hx : p x = true) (ha : ∀ j y, j < i → l[j]? = some y → p y = true) : ∀ j y, j < i + 1 → l[j]? = some y → p y = true := fun j y hj e => by
  by_cases z : j = i
  · subst z
    rw [h] at e
    rw [← Option.some.inj e]
    exact hx
  · exact ha j y (by omega) e
theorem take_more {α : Type} : ∀ {l : List α} {i : Nat} {x : α}, l[i]? = some x → l.take (i + 1) = l.take i ++ [x]
  | [], i, x, h => by simp at h
  | a :: l, 0, x, h => by
    have e : a = x := Option.some.inj h
    subst e
    rfl
  | a :: l, i + 1, x, h => by
    have ih := take_more (l := l) (i := i) (x := x) h
    show a :: l.take (i + 1) = a :: l.take i ++ [x]
    rw [ih]
    rfl
theorem heldNum_more {l : List Nat} {i : Nat} {c : Nat} (h : l[i]? = some c) : heldNum (l.take (i + 1)) = held (heldNum (l.take i) * 10 + (c : Int) - 48) := by
  rw [take_more h]
  unfold heldNum
  rw [List.foldl_append]
  rfl
theorem held_bounds {n : Int} (h : 0 ≤ n) : 0 ≤ held n ∧ held n ≤ 1000000000000000001 := by
  unfold held
  split <;> omega
theorem heldNum_go : ∀ (l : List Nat) (n : Int), (∀ c ∈ l, isDigit c = true) → 0 ≤ n ∧ n ≤ 1000000000000000001 → 0 ≤ l.foldl (fun (n : Int) (c : Nat) => held (n * 10 + (c : Int) - 48)) n ∧ l.foldl (fun (n : Int) (c : Nat) => held (n * 10 + (c : Int) - 48)) n ≤ 1000000000000000001
  | [], _, _, h => h
  | c :: l, n, hd, h => by
    have hc : 48 ≤ c ∧ c ≤ 57 := of_decide_eq_true (hd c List.mem_cons_self)
    exact heldNum_go l _ (fun x hx => hd x (List.mem_cons_of_mem _ hx)) (held_bounds (by omega))
theorem heldNum_bounds (l : List Nat) (hd : ∀ c ∈ l, isDigit c = true) : 0 ≤ heldNum l ∧ heldNum l ≤ 1000000000000000001 := heldNum_go l 0 hd ⟨by omega, by omega⟩
end N
namespace N
open PySem L2
/-- skip_blanks(text, at) -/
def spSkip (K : PySem.W.Frag) : Sp := fun vs H Q _ => ∃ (a : Addr) (t : List Nat) (k : Nat), vs = [.ref a, .int (k : Int)] ∧ SqL K H a (Bs t) ∧ t.length ≤ 100000 ∧ k ≤ t.length ∧ Q (.int ((k + runLen isBlank (t.drop k) : Nat) : Int)) H
section
variable {P : Program} {w : World} {K : PySem.W.Frag} {mg : Str → Option Value} {base : Heap}
theorem sc_skip_blanks : FnScope ["text", "at", "place"] ["text", "at"] (defScope sSkipBlanks) := ⟨rfl, rfl, rfl, by decide +kernel, rfl, by decide +kernel, by decide +kernel⟩
theorem ok_skip_blanks (T : Top1 K mg "skip_blanks" sSkipBlanks ["text", "at"]) (c_BLANKS : CT K mg "BLANKS" [32, 9, 10, 13]) (b_len : mg "len" = none) (b_range : mg "range" = none) : Def P w K mg base CX0 "skip_blanks" 1 ["text", "at"] (spSkip K) := by
  refine T.ok sc_skip_blanks (fun vs H Q E h => ?_) (fun f cdv A outer s H vs Q E hr h => ?_)
  · obtain ⟨a, t, k, rfl, _⟩ := h
    rfl
  obtain ⟨a, t, k, rfl, hS, hz, hk, q⟩ := h
  refine ⟨_, (pss_cons (ps_for PassesOwn.never rfl (pi_range2 rfl b_range (pa_cons (pv 1) (pa_cons (pe_callB call_len_seq (by rfl) b_len (by decide +kernel) (pa_cons (pv 0) pa_nil)) pa_nil))) (pg_name (i := 2) sc_skip_blanks.nd rfl (Or.inl rfl)) (pss_one (ps_if (pt_cmpR op_notIn_seq (pe_ix ix_list (pv 0) (pv 2) (fun _ _ => rfl)) (pe_ct c_BLANKS) rfl) (pss_one (ps_ret (pv 2))) pss_nil))) (pss_one (ps_ret (pe_callB call_len_seq (by rfl) b_len (by decide +kernel) (pa_cons (pv 0) pa_nil))))), ?_⟩
  refine ⟨_, rfl, _, rfl, a, _, rfl, .inl hS, (k : Int), ((Bs t).length : Int), rfl, ?_, ?_⟩
  · rw [Bs_len]
    omega
  rw [Bs_len]
  refine for_range (lo := (k : Int)) (n := ((t.length : Int) - (k : Int)).toNat) (fun i σ H' => H' = H ∧ (∃ v, σ = [some (.ref a), some (.int (k : Int)), v]) ∧ ∀ j y, j < i → (t.drop k)[j]? = some y → isBlank y = true) ⟨rfl, ⟨none, rfl⟩, fun j y hj => absurd hj (Nat.not_lt_zero _)⟩ ?_ ?_
  · rintro i σ H' hi ⟨rfl, ⟨v, rfl⟩, hb⟩
    have hlt : k + i < t.length := by omega
    obtain ⟨hc, hd⟩ := at_shift hlt
    refine ⟨_, rfl, _, rfl, a, _, _, _, rfl, rfl, hS, Bs_atI (by omega) hc, fun b hT => ?_⟩
    refine ⟨b, _, rfl, .inr (hT _), rfl, rfl, _, rfl, ?_⟩
    rw [blank_in]
    show if (!isBlank t[k + i]) = true then _ else _
    cases hx : isBlank t[k + i] with
    | false =>
      refine iteT ⟨_, rfl, ?_⟩
      have e := runLen_stop isBlank (t.drop k) i _ hb hd hx
      rw [e] at q
      rw [show (k : Int) + (i : Int) = ((k + i : Nat) : Int) by omega]
      exact q
    | true => exact iteF ⟨rfl, ⟨_, rfl⟩, all_more hd hx hb⟩
  · rintro σ H' ⟨rfl, ⟨v, rfl⟩, hb⟩
    refine ⟨_, rfl, a, _, rfl, .inl hS, ?_⟩
    have e := runLen_all isBlank (t.drop k) fun j y hj e => hb j y (by rw [List.length_drop] at hj; omega) e
    rw [e, List.length_drop] at q
    rw [Bs_len]
    rw [show k + (t.length - k) = t.length by omega] at q
    exact q
end
end N
namespace N
open PySem L2
/-- digits_end(text, at) -/
def spDigEnd (K : PySem.W.Frag) : Sp := fun vs H Q _ => ∃ (a : Addr) (t : List Nat) (k : Nat), vs = [.ref a, .int (k : Int)] ∧ SqL K H a (Bs t) ∧ t.length ≤ 100000 ∧ k ≤ t.length ∧ Q (.int ((k + runLen isDigit (t.drop k) : Nat) : Int)) H
section
variable {P : Program} {w : World} {K : PySem.W.Frag} {mg : Str → Option Value} {base : Heap}
theorem sc_digits_end : FnScope ["text", "at", "place"] ["text", "at"] (defScope sDigitsEnd) := ⟨rfl, rfl, rfl, by decide +kernel, rfl, by decide +kernel, by decide +kernel⟩
theorem ok_digits_end (T : Top1 K mg "digits_end" sDigitsEnd ["text", "at"]) (c_NINE : CI mg "NINE" 57) (c_ZERO : CI mg "ZERO" 48) (b_len : mg "len" = none) (b_range : mg "range" = none) : Def P w K mg base CX0 "digits_end" 1 ["text", "at"] (spDigEnd K) := by
  refine T.ok sc_digits_end (fun vs H Q E h => ?_) (fun f cdv A outer s H vs Q E hr h => ?_)
  · obtain ⟨a, t, k, rfl, _⟩ := h
    rfl
  obtain ⟨a, t, k, rfl, hS, hz, hk, q⟩ := h
  refine ⟨_, (pss_cons (ps_for PassesOwn.never rfl (pi_range2 rfl b_range (pa_cons (pv 1) (pa_cons (pe_callB call_len_seq (by rfl) b_len (by decide +kernel) (pa_cons (pv 0) pa_nil)) pa_nil))) (pg_name (i := 2) sc_digits_end.nd rfl (Or.inl rfl)) (pss_one (ps_if (PW.pt (pw_or (pt_cmpR op_lt (pe_ix ix_list (pv 0) (pv 2) (fun _ _ => rfl)) (pe_ci c_ZERO) (nomark _)) (pw_or1 (pt_cmpR op_gt (pe_ix ix_list (pv 0) (pv 2) (fun _ _ => rfl)) (pe_ci c_NINE) (nomark _))))) (pss_one (ps_ret (pv 2))) pss_nil))) (pss_one (ps_ret (pe_callB call_len_seq (by rfl) b_len (by decide +kernel) (pa_cons (pv 0) pa_nil))))), ?_⟩
  refine ⟨_, rfl, _, rfl, a, _, rfl, .inl hS, (k : Int), ((Bs t).length : Int), rfl, ?_, ?_⟩
  · rw [Bs_len]
    omega
  rw [Bs_len]
  refine for_range (lo := (k : Int)) (n := ((t.length : Int) - (k : Int)).toNat) (fun i σ H' => H' = H ∧ (∃ v, σ = [some (.ref a), some (.int (k : Int)), v]) ∧ ∀ j y, j < i → (t.drop k)[j]? = some y → isDigit y = true) ⟨rfl, ⟨none, rfl⟩, fun j y hj => absurd hj (Nat.not_lt_zero _)⟩ ?_ ?_
  · rintro i σ H' hi ⟨rfl, ⟨v, rfl⟩, hb⟩
    have hlt : k + i < t.length := by omega
    obtain ⟨hc, hd⟩ := at_shift hlt
    have stop : isDigit t[k + i] = false → Q (.int ((k : Int) + (i : Int))) H' := fun hx => by
      have e := runLen_stop isDigit (t.drop k) i _ hb hd hx
      rw [e] at q
      rw [show (k : Int) + (i : Int) = ((k + i : Nat) : Int) by omega]
      exact q
    refine ⟨_, rfl, _, rfl, a, _, _, _, rfl, rfl, hS, Bs_atI (by omega) hc, _, _, rfl, rfl, _, rfl, ?_⟩
    by_cases h1 : ((t[k + i] : Nat) : Int) < 48
    · refine itT h1 (iteT ⟨_, rfl, stop (decide_eq_false fun z => ?_)⟩)
      omega
    · refine itF h1 ⟨_, rfl, _, rfl, a, _, _, _, rfl, rfl, hS, Bs_atI (by omega) hc, _, _, rfl, rfl, _, rfl, ?_⟩
      by_cases h2 : (57 : Int) < ((t[k + i] : Nat) : Int)
      · refine itT h2 ⟨_, rfl, stop (decide_eq_false fun z => ?_)⟩
        omega
      · refine itF h2 ⟨rfl, ⟨_, rfl⟩, all_more hd (decide_eq_true ?_) hb⟩
        omega
  · rintro σ H' ⟨rfl, ⟨v, rfl⟩, hb⟩
    refine ⟨_, rfl, a, _, rfl, .inl hS, ?_⟩
    have e := runLen_all isDigit (t.drop k) fun j y hj e => hb j y (by rw [List.length_drop] at hj; omega) e
    rw [e, List.length_drop] at q
    rw [Bs_len]
    rw [show k + (t.length - k) = t.length by omega] at q
    exact q
end
end N
namespace N
open PySem L2
/-- digits_number(text, first, stop) -/
def spDigNum (K : PySem.W.Frag) : Sp := fun vs H Q _ => ∃ (a : Addr) (t : List Nat) (k m : Nat), vs = [.ref a, .int (k : Int), .int ((k + m : Nat) : Int)] ∧ SqL K H a (Bs t) ∧ t.length ≤ 100000 ∧ k + m ≤ t.length ∧ (∀ c ∈ (t.drop k).take m, isDigit c = true) ∧ Q (.int (heldNum ((t.drop k).take m))) H
section
variable {P : Program} {w : World} {K : PySem.W.Frag} {mg : Str → Option Value} {base : Heap}
theorem sc_digits_number : FnScope ["text", "first", "stop", "total", "place"] ["text", "first", "stop"] (defScope sDigitsNumber) := ⟨rfl, rfl, rfl, by decide +kernel, rfl, by decide +kernel, by decide +kernel⟩
theorem ok_digits_number (T : Top1 K mg "digits_number" sDigitsNumber ["text", "first", "stop"]) (c_ZERO : CI mg "ZERO" 48) (c_BEYOND : CI mg "BEYOND" 1000000000000000001) (b_min : mg "min" = none) (b_range : mg "range" = none) : Def P w K mg base CX0 "digits_number" 1 ["text", "first", "stop"] (spDigNum K) := by
  refine T.ok sc_digits_number (fun vs H Q E h => ?_) (fun f cdv A outer s H vs Q E hr h => ?_)
  · obtain ⟨a, t, k, m, rfl, _⟩ := h
    rfl
  obtain ⟨a, t, k, m, rfl, hS, hz, hk, hd, q⟩ := h
  refine ⟨_, (pss_cons (ps_set (i := 3) sc_digits_number.nd rfl (Or.inl rfl) pe_int) (pss_cons (ps_for PassesOwn.never rfl (pi_range2 rfl b_range (pa_cons (pv 1) (pa_cons (pv 2) pa_nil))) (pg_name (i := 4) sc_digits_number.nd rfl (Or.inl rfl)) (pss_one (ps_set (i := 3) sc_digits_number.nd rfl (Or.inl rfl) (pe_callB (call_min2 rfl) (by rfl) b_min (by decide +kernel) (pa_cons (pe_op op_sub (pe_op op_add (pe_op op_mul (pv 3) pe_int) (pe_ix ix_list (pv 0) (pv 4) (fun _ _ => rfl))) (pe_ci c_ZERO)) (pa_cons (pe_ci c_BEYOND) pa_nil)))))) (pss_one (ps_ret (pv 3))))), ?_⟩
  refine ⟨_, rfl, _, rfl, (k : Int), ((k + m : Nat) : Int), rfl, ⟨by omega, by omega, by omega, by omega⟩, ?_⟩
  refine for_range (lo := (k : Int)) (n := (((k + m : Nat) : Int) - (k : Int)).toNat) (fun i σ H' => H' = H ∧ i ≤ m ∧ ∃ v, σ = [some (.ref a), some (.int (k : Int)), some (.int ((k + m : Nat) : Int)), some (.int (heldNum ((t.drop k).take i))), v]) ⟨rfl, Nat.zero_le _, ⟨none, rfl⟩⟩ ?_ ?_
  · rintro i σ H' hi ⟨rfl, him, ⟨v, rfl⟩⟩
    have hi' : i < m := by omega
    have hlt : k + i < t.length := by omega
    obtain ⟨hc, hd'⟩ := at_shift hlt
    have hn := heldNum_bounds ((t.drop k).take i) fun c hc => hd c (List.mem_of_mem_take (i := i) (by rw [List.take_take, Nat.min_eq_left (Nat.le_of_lt hi')]; exact hc))
    refine ⟨_, rfl, _, _, rfl, rfl, .inl ⟨by omega, by omega⟩, _, rfl, _, rfl, a, _, _, _, rfl, rfl, hS, Bs_atI (by omega) hc, _, _, rfl, rfl, _, _, rfl, rfl, _, _, rfl, ?_⟩
    refine ⟨rfl, hi', some (.int ((k : Int) + (i : Int))), ?_⟩
    rw [heldNum_more hd']
    rfl
  · rintro σ H' ⟨rfl, him, ⟨v, rfl⟩⟩
    refine ⟨_, rfl, ?_⟩
    rw [show (((k + m : Nat) : Int) - (k : Int)).toNat = m by omega]
    exact q
end
end N
namespace N
open PySem L2
/-! ### Token -/
def tokF (k n s : Int) : List (Str × V) := [("kind", .int k), ("number", .int n), ("stop", .int s)]
theorem tokF_put (k n s : Int) : putF "stop" (.int s) (putF "number" (.int n) (putF "kind" (.int k) [])) = tokF k n s := by
  show putF "stop" (.int s) (if ("kind" : Str) = "number" then _ else (("kind" : Str), V.int k) :: putF "number" (V.int n) []) = _
  rw [if_neg (by decide +kernel)]
  show (if ("kind" : Str) = "stop" then _ else (("kind" : Str), V.int k) :: (if ("number" : Str) = "stop" then _ else (("number" : Str), V.int n) :: putF "stop" (V.int s) [])) = _
  rw [if_neg (by decide +kernel), if_neg (by decide +kernel)]
  rfl
theorem tokF_kind (k n s : Int) : (tokF k n s).lookup ("kind" : Str) = some (.int k) := by
  unfold tokF
  rw [List.lookup_cons, show (("kind" : Str) == "kind") = true by decide +kernel]
theorem tokF_number (k n s : Int) : (tokF k n s).lookup ("number" : Str) = some (.int n) := by
  unfold tokF
  rw [List.lookup_cons, show (("number" : Str) == "kind") = false by decide +kernel, List.lookup_cons, show (("number" : Str) == "number") = true by decide +kernel]
theorem tokF_stop (k n s : Int) : (tokF k n s).lookup ("stop" : Str) = some (.int s) := by
  unfold tokF
  rw [List.lookup_cons, show (("stop" : Str) == "kind") = false by decide +kernel, List.lookup_cons, show (("stop" : Str) == "number") = false by decide +kernel, List.lookup_cons, show (("stop" : Str) == "stop") = true by decide +kernel]
/-- a token: its kind, number, the place behind it -/
structure Tk where
  kind : Int
  num : Int
  stop : Int
/-- v is a Token that tells k -/
def TokV (C : Addr) (H : Hp) (v : V) (k : Tk) : Prop := ∃ x dx, v = .ref x ∧ H x = some (.ins C dx (tokF k.kind k.num k.stop))
theorem TokV.mono {C : Addr} {H H' : Hp} {v : V} {k : Tk} (e : Same H H') (h : TokV C H v k) : TokV C H' v k := by
  obtain ⟨x, dx, a, b⟩ := h
  exact ⟨x, dx, a, e _ _ b⟩
def spTokenInit (C : Addr) : Sp := fun vs H Q _ => ∃ (p dx : Addr) (k n s : Int), vs = [.ref p, .int k, .int n, .int s] ∧ H p = some (.ins C dx []) ∧ Q .non (upd H p (.ins C dx (tokF k n s)))
section
variable {P : Program} {w : World} {K : PySem.W.Frag} {mg : Str → Option Value} {base : Heap} {CTok : Addr}
theorem sc_TokenInit : FnScope ["self", "kind", "number", "stop"] ["self", "kind", "number", "stop"] (defScope sTokenInit) := ⟨rfl, rfl, rfl, by decide +kernel, rfl, by decide +kernel, by decide +kernel⟩
theorem ok_TokenInit (T : TopC K mg "Token" "Token.__init__" sTokenInit ["self", "kind", "number", "stop"] CTok) (F : ClF K CTok ["kind", "number", "stop"]) : DefC P w K mg base "Token" CTok 1 ["self", "kind", "number", "stop"] (spTokenInit CTok) := by
  refine T.ok sc_TokenInit (fun vs H Q E h => ?_) (fun f cdv A outer s H vs Q E hr h => ?_)
  · obtain ⟨p, dx, k, n, s, rfl, _⟩ := h
    rfl
  obtain ⟨p, dx, k, n, st, rfl, hp, q⟩ := h
  refine ⟨_, pss_cons (ps_fld (pv 0) (pv 1) rfl) (pss_cons (ps_fld (pv 0) (pv 2) rfl) (pss_one (ps_fld (pv 0) (pv 3) rfl))), ?_⟩
  refine ⟨_, rfl, _, rfl, p, CTok, dx, _, rfl, hp, F.cl, F.no _ (by simp), (by show 0 < 1000; decide), _, rfl, _, rfl, p, CTok, dx, _, rfl, upd_same, F.cl, F.no _ (by simp), (by show 1 < 1000; decide), _, rfl, _, rfl, p, CTok, dx, _, rfl, upd_same, F.cl, F.no _ (by simp), ?_, ?_⟩
  · show (if ("kind" : Str) = "number" then (("kind" : Str), V.int n) :: [] else (("kind" : Str), V.int k) :: putF "number" (V.int n) []).length < 1000
    rw [if_neg (by decide +kernel)]
    show 2 < 1000
    decide
  · rw [tokF_put, upd_upd, upd_upd]
    exact q
/-- Token(k, n, s): the end of its reading -/
theorem new_tok {H1 : Hp} {Q : VK} {E : XK} {k n s : Int} (q : ∀ (x : Addr) (H2 : Hp), Same H1 H2 → TokV CTok H2 (.ref x) ⟨k, n, s⟩ → Q (.ref x) H2) :
    ∀ x dx, H1 x = none → H1 dx = none → dx ≠ x → spTokenInit CTok (.ref x :: ([.int k, .int n, .int s] ++ [])) (upd (upd H1 dx (.own x)) x (.ins CTok dx [])) (fun v H2 => v = .non ∧ Q (.ref x) H2) E := by
  intro x dx nx nd ne
  refine ⟨x, dx, k, n, s, rfl, upd_same, rfl, ?_⟩
  rw [upd_upd]
  have e1 : Same H1 (upd H1 dx (.own x)) := same_new nd _
  have e2 : Same H1 (upd (upd H1 dx (.own x)) x (.ins CTok dx (tokF k n s))) := Same.mut e1 nx
  exact q x _ e2 ⟨x, dx, rfl, upd_same⟩
end
end N
namespace N
open PySem L2
/-- good_digits(text, first, stop, below): m digits from k on -/
def goodDig (ds : List Nat) (below : Bool) : Bool := !ds.isEmpty && (ds.head? != some 48 || (ds.length == 1 && !below))
def spGoodDig (K : PySem.W.Frag) : Sp := fun vs H Q _ => ∃ (a : Addr) (t : List Nat) (k m : Nat) (b : Bool), vs = [.ref a, .int (k : Int), .int ((k + m : Nat) : Int), .bl b] ∧ SqL K H a (Bs t) ∧ t.length ≤ 100000 ∧ k + m ≤ t.length ∧ Q (.bl (goodDig ((t.drop k).take m) b)) H
section
variable {P : Program} {w : World} {K : PySem.W.Frag} {mg : Str → Option Value} {base : Heap}
theorem sc_good_digits : FnScope ["text", "first", "stop", "below"] ["text", "first", "stop", "below"] (defScope sGoodDigits) := ⟨rfl, rfl, rfl, by decide +kernel, rfl, by decide +kernel, by decide +kernel⟩
theorem ok_good_digits (T : Top1 K mg "good_digits" sGoodDigits ["text", "first", "stop", "below"]) (c_ZERO : CI mg "ZERO" 48) : Def P w K mg base CX0 "good_digits" 1 ["text", "first", "stop", "below"] (spGoodDig K) := by
  refine T.ok sc_good_digits (fun vs H Q E h => ?_) (fun f cdv A outer s H vs Q E hr h => ?_)
  · obtain ⟨a, t, k, m, b, rfl, _⟩ := h
    rfl
  obtain ⟨a, t, k, m, b, rfl, hS, hz, hk, q⟩ := h
  refine ⟨_, (pss_cons (ps_if (pt_cmpR op_eq (pv 1) (pv 2) (nomark _)) (pss_one (ps_ret pe_bl)) pss_nil) (pss_cons (ps_if (pt_cmpR op_ne (pe_ix ix_list (pv 0) (pv 1) (fun _ _ => rfl)) (pe_ci c_ZERO) (nomark _)) (pss_one (ps_ret pe_bl)) pss_nil) (pss_one (ps_ret (pe_and (pe_cmpR op_eq (pv 2) (pe_op op_add (pv 1) pe_int) (nomark _)) (pe_one (pe_not (pv 3)))))))), ?_⟩
  refine ⟨_, rfl, _, rfl, rfl, _, rfl, ?_⟩
  by_cases h0 : m = 0
  · subst h0
    refine itT rfl ?_
    exact q
  have hlt : k + 0 < t.length := by omega
  obtain ⟨hc, hd'⟩ := at_shift hlt
  have hh : ((t.drop k).take m).head? = some t[k + 0] := by rw [List.head?_take, if_neg h0, List.head?_eq_getElem?, hd']
  have hne : ((t.drop k).take m).isEmpty = false := by
    cases e : (t.drop k).take m with
    | nil =>
      rw [e] at hh
      cases hh
    | cons _ _ => rfl
  have hl : ((t.drop k).take m).length = m := by rw [List.length_take, List.length_drop]; omega
  refine itF (by intro z; have := V.int.inj z; omega) ⟨_, rfl, _, rfl, a, _, _, _, rfl, rfl, hS, Bs_atI (by omega) (show t[((k : Int)).toNat]? = some t[k + 0] by rw [Int.toNat_natCast]; exact List.getElem?_eq_getElem hlt), rfl, _, rfl, ?_⟩
  unfold goodDig at q
  rw [hne, hh, hl] at q
  by_cases h1 : t[k + 0] = 48
  · have e1 : V.int ((t[k + 0] : Nat) : Int) = V.int 48 := by rw [h1]; rfl
    rw [e1]
    refine iteF ⟨_, rfl, _, rfl, _, _, rfl, rfl, rfl, _, rfl, ?_⟩
    have e2 : ((some t[k + 0] : Option Nat) != some 48) = false := by rw [h1]; rfl
    rw [e2] at q
    by_cases h2 : m = 1
    · subst h2
      refine itT (by rw [show ((k + 1 : Nat) : Int) = (k : Int) + 1 by omega]) ⟨_, rfl, _, rfl, ?_⟩
      exact q
    · refine itF (by intro z; have := V.int.inj z; omega) ?_
      have e3 : (m == 1) = false := beq_eq_false_iff_ne.mpr h2
      rw [e3] at q
      exact q
  · have e1 : decide (V.int ((t[k + 0] : Nat) : Int) = V.int 48) = false := decide_eq_false (by intro z; have := V.int.inj z; omega)
    rw [e1]
    refine iteT ?_
    have e2 : ((some t[k + 0] : Option Nat) != some 48) = true := by
      rw [bne_iff_ne]
      intro z
      exact h1 (Option.some.inj z)
    rw [e2] at q
    exact q
end
end N
namespace N
/-- the number token that begins at the head of l, at place k of the text -/
def digs (l : List Nat) : List Nat := if l.head? = some 95 then (l.drop 1).takeWhile isDigit else l.takeWhile isDigit
def tokNum (l : List Nat) (k : Nat) : Tk :=
  if goodDig (digs l) (l.head? == some 95) = true then
    ⟨1, if l.head? = some 95 then - heldNum (digs l) else heldNum (digs l), ((k + (if l.head? = some 95 then 1 else 0) + (digs l).length : Nat) : Int)⟩
  else ⟨0, 0, (k : Int)⟩
def isSign (c : Nat) : Bool := c == 91 || (c == 58 || c == 93)
def tokOf (l : List Nat) (k : Nat) : Tk := match l with
  | [] => ⟨0, 0, (k : Int)⟩
  | c :: _ => if isSign c = true then ⟨(c : Int), 0, (k : Int) + 1⟩ else tokNum l k
def afterNum (st n : Int) : Int := if st = 0 then 3 else if st = 2 then 2 else if st = 1 ∧ 0 ≤ n then 1 else 4
def afterCl (lv : Int) : Int := if lv = 0 then 3 else 2
def adv (st lv : Int) (k : Tk) : Int × Int :=
  if k.kind = 1 then (afterNum st k.num, lv)
  else if k.kind = 91 ∧ (st = 0 ∨ st = 2) then (1, lv + 1)
  else if k.kind = 58 ∧ st = 1 then (2, lv)
  else if k.kind = 93 ∧ st = 2 then (afterCl (lv - 1), lv - 1)
  else (4, lv)
/-- the scan from place at on (in so many steps), with the tokens so far -/
def scanF : Nat → List Nat → Nat → Int → Int → List Tk → List Tk × Int
  | 0, t, _, _, _, acc => (acc, (t.length : Int))
  | f + 1, t, at_, st, lv, acc =>
    if at_ < t.length then
      let k := tokOf (t.drop at_) at_
      if (adv st lv k).1 = 4 then (acc, (at_ : Int))
      else scanF f t (k.stop.toNat + runLen isBlank (t.drop k.stop.toNat)) (adv st lv k).1 (adv st lv k).2 (acc ++ [k])
    else if st = 3 then (acc, -1) else (acc, (t.length : Int))
def scanAll (t : List Nat) : List Tk × Int := scanF (t.length + 1) t (runLen isBlank t) 0 0 []
theorem takeWhile_take {p : Nat → Bool} : ∀ l : List Nat, l.take (runLen p l) = l.takeWhile p
  | [] => rfl
  | a :: l => by
    unfold runLen
    by_cases h : p a = true
    · rw [List.takeWhile_cons_of_pos h]
      show a :: l.take (runLen p l) = _
      rw [takeWhile_take l]
    · rw [List.takeWhile_cons_of_neg h]
      rfl
theorem takeWhile_all {p : Nat → Bool} : ∀ (l : List Nat) (c : Nat), c ∈ l.takeWhile p → p c = true
  | [], _, h => by simp at h
  | a :: l, c, h => by
    by_cases ha : p a = true
    · rw [List.takeWhile_cons_of_pos ha] at h
      rcases List.mem_cons.mp h with e | h
      · rw [e]; exact ha
      · exact takeWhile_all l c h
    · rw [List.takeWhile_cons_of_neg ha] at h
      simp at h
theorem adv_zero (st lv : Int) (k : Tk) (h : k.kind = 0) : (adv st lv k).1 = 4 := by
  unfold adv
  rw [if_neg (by omega), if_neg (by omega), if_neg (by omega), if_neg (by omega)]
theorem takeWhile_len {p : Nat → Bool} (l : List Nat) : (l.takeWhile p).length ≤ l.length := runLen_le p l
theorem tokNum_stop (l : List Nat) (k : Nat) : (tokNum l k).kind = 0 ∨ ∃ s : Nat, (tokNum l k).stop = (s : Int) ∧ k < s ∧ s ≤ k + l.length := by
  unfold tokNum
  by_cases g : goodDig (digs l) (l.head? == some 95) = true
  · rw [if_pos g]
    refine .inr ⟨_, rfl, ?_⟩
    have hne : 0 < (digs l).length := by
      unfold goodDig at g
      cases e : digs l with
      | nil =>
        rw [e] at g
        cases g
      | cons _ _ => exact Nat.succ_pos _
    have hle : (if l.head? = some 95 then 1 else 0) + (digs l).length ≤ l.length := by
      unfold digs
      by_cases h : l.head? = some 95
      · rw [if_pos h, if_pos h]
        have := takeWhile_len (p := isDigit) (l.drop 1)
        rw [List.length_drop] at this
        have hl : l ≠ [] := fun z => by rw [z] at h; cases h
        have := List.length_pos_iff.mpr hl
        omega
      · rw [if_neg h, if_neg h]
        have := takeWhile_len (p := isDigit) l
        omega
    omega
  · rw [if_neg g]
    exact .inl rfl
theorem tokOf_stop {t : List Nat} {k : Nat} (hk : k < t.length) : (tokOf (t.drop k) k).kind = 0 ∨ ∃ s : Nat, (tokOf (t.drop k) k).stop = (s : Int) ∧ k < s ∧ s ≤ t.length := by
  have hdr : t.drop k = t[k] :: t.drop (k + 1) := List.drop_eq_getElem_cons hk
  have h := tokNum_stop (t.drop k) k
  have hl : (t.drop k).length = t.length - k := List.length_drop
  rw [hl] at h
  generalize hg : t.drop k = l at *
  rw [hdr]
  unfold tokOf
  by_cases s : isSign t[k] = true
  · simp only [s, if_true]
    exact .inr ⟨k + 1, rfl, Nat.lt_succ_self _, hk⟩
  · simp only [s, if_false]
    rw [← hdr]
    rcases h with h | ⟨s', h1, h2, h3⟩
    · exact .inl h
    · exact .inr ⟨s', h1, h2, by omega⟩
end N
namespace N
open PySem L2
/-- read_number(text, at), at within the text -/
def spReadNum (K : PySem.W.Frag) (C : Addr) : Sp := fun vs H Q _ => ∃ (a : Addr) (t : List Nat) (k : Nat), vs = [.ref a, .int (k : Int)] ∧ SqL K H a (Bs t) ∧ t.length ≤ 100000 ∧ k < t.length ∧
  ∀ (v : V) (H' : Hp), Same H H' → TokV C H' v (tokNum (t.drop k) k) → Q v H'
section
variable {P : Program} {w : World} {K : PySem.W.Frag} {mg : Str → Option Value} {base : Heap} {CTok : Addr}
theorem sc_read_number : FnScope ["text", "at", "below", "first", "stop", "far"] ["text", "at"] (defScope sReadNumber) := ⟨rfl, rfl, rfl, by decide +kernel, rfl, by decide +kernel, by decide +kernel⟩
theorem ok_read_number (T : Top1 K mg "read_number" sReadNumber ["text", "at"]) (c_NUMBER : CI mg "NUMBER" 1) (c_NOTHING : CI mg "NOTHING" 0) (c_LOW : CI mg "LOW" 95) (D_Token : DefC P w K mg base "Token" CTok 1 ["self", "kind", "number", "stop"] (spTokenInit CTok)) (D_digits_number : Def P w K mg base CX0 "digits_number" 1 ["text", "first", "stop"] (spDigNum K)) (D_good_digits : Def P w K mg base CX0 "good_digits" 1 ["text", "first", "stop", "below"] (spGoodDig K)) (D_digits_end : Def P w K mg base CX0 "digits_end" 1 ["text", "at"] (spDigEnd K)) : Def P w K mg base CX0 "read_number" 3 ["text", "at"] (spReadNum K CTok) := by
  refine T.ok sc_read_number (fun vs H Q E h => ?_) (fun f cdv A outer s H vs Q E hr h => ?_)
  · obtain ⟨a, t, k, rfl, _⟩ := h
    rfl
  obtain ⟨a, t, k, rfl, hS, hz, hk, q⟩ := h
  refine ⟨_, (pss_cons (ps_set (i := 2) sc_read_number.nd rfl (Or.inl rfl) (pe_cmpR op_eq (pe_ix ix_list (pv 0) (pv 1) (fun _ _ => rfl)) (pe_ci c_LOW) (nomark _))) (pss_cons (ps_set (i := 3) sc_read_number.nd rfl (Or.inl rfl) (pe_ifExp (pt_val (pv 2)) (pe_op op_add (pv 1) pe_int) (pv 1))) (pss_cons (ps_set (i := 4) sc_read_number.nd rfl (Or.inl rfl) (pe_fn D_digits_end (hr.mono (by decide)) pass0 (pa_cons (pv 0) (pa_cons (pv 3) pa_nil)))) (pss_cons (ps_if (pt_not (pt_val (pe_fn D_good_digits (hr.mono (by decide)) pass0 (pa_cons (pv 0) (pa_cons (pv 3) (pa_cons (pv 4) (pa_cons (pv 2) pa_nil))))))) (pss_one (ps_ret (pe_new D_Token (hr.mono (by decide)) (pa_cons (pe_ci c_NOTHING) (pa_cons pe_int (pa_cons (pv 1) pa_nil)))))) pss_nil) (pss_cons (ps_set (i := 5) sc_read_number.nd rfl (Or.inl rfl) (pe_fn D_digits_number (hr.mono (by decide)) pass0 (pa_cons (pv 0) (pa_cons (pv 3) (pa_cons (pv 4) pa_nil))))) (pss_cons (ps_if (pt_val (pv 2)) (pss_one (ps_ret (pe_new D_Token (hr.mono (by decide)) (pa_cons (pe_ci c_NUMBER) (pa_cons (pe_un un_neg (pv 5)) (pa_cons (pv 4) pa_nil)))))) pss_nil) (pss_one (ps_ret (pe_new D_Token (hr.mono (by decide)) (pa_cons (pe_ci c_NUMBER) (pa_cons (pv 5) (pa_cons (pv 4) pa_nil)))))))))))), ?_⟩
  have hc : t[((k : Int)).toNat]? = some t[k] := by
    rw [Int.toNat_natCast]
    exact List.getElem?_eq_getElem hk
  have hdr : t.drop k = t[k] :: t.drop (k + 1) := List.drop_eq_getElem_cons hk
  have hh : (t.drop k).head? = some t[k] := by rw [hdr]; rfl
  refine ⟨_, rfl, _, rfl, a, _, _, _, rfl, rfl, hS, Bs_atI (by omega) hc, rfl, ?_⟩
  -- what stands behind the low line
  have main : ∀ (b : Bool) (j : Nat) (l : List Nat), b = decide (t[k] = 95) → j = (if t[k] = 95 then k + 1 else k) → l = t.drop j → j ≤ t.length → digs (t.drop k) = l.takeWhile isDigit ∧ k + (if (t.drop k).head? = some 95 then 1 else 0) = j ∧ (t.drop j).take (runLen isDigit l) = digs (t.drop k) ∧ j + runLen isDigit l ≤ t.length ∧ ((t.drop k).head? == some 95) = b := by
    rintro b j l rfl hj rfl hjl
    have hle := runLen_le isDigit (t.drop j)
    rw [List.length_drop] at hle
    have e1 : digs (t.drop k) = (t.drop j).takeWhile isDigit := by
      unfold digs
      rw [hh, List.drop_drop]
      by_cases c : t[k] = 95
      · rw [if_pos (by rw [c]), hj, if_pos c]
      · rw [if_neg (by intro z; exact c (Option.some.inj z)), hj, if_neg c]
    refine ⟨e1, ?_, ?_, by omega, ?_⟩
    · rw [hh, hj]
      by_cases c : t[k] = 95
      · rw [if_pos (by rw [c]), if_pos c]
      · rw [if_neg (by intro z; exact c (Option.some.inj z)), if_neg c]
        rfl
    · rw [e1]
      exact takeWhile_take _
    · rw [hh]
      by_cases c : t[k] = 95
      · rw [c]; rfl
      · rw [decide_eq_false c]
        exact beq_eq_false_iff_ne.mpr fun z => c (Option.some.inj z)
  have go : ∀ (b : Bool) (j : Nat), b = decide (t[k] = 95) → j = (if t[k] = 95 then k + 1 else k) → j ≤ t.length → ∀ (v : Bool), v = b →
      (tokNum (t.drop k) k = if goodDig ((t.drop j).take (runLen isDigit (t.drop j))) b = true then ⟨1, if b = true then - heldNum ((t.drop j).take (runLen isDigit (t.drop j))) else heldNum ((t.drop j).take (runLen isDigit (t.drop j))), ((j + runLen isDigit (t.drop j) : Nat) : Int)⟩ else ⟨0, 0, (k : Int)⟩) ∧ j + runLen isDigit (t.drop j) ≤ t.length ∧ ∀ c ∈ (t.drop j).take (runLen isDigit (t.drop j)), isDigit c = true := by
    intro b j hb hj hjl v _
    obtain ⟨e1, e2, e3, e4, e5⟩ := main b j _ hb hj rfl hjl
    refine ⟨?_, e4, fun c hc => ?_⟩
    · unfold tokNum
      have e6 : (if (t.drop k).head? = some 95 then - heldNum (digs (t.drop k)) else heldNum (digs (t.drop k))) = if b = true then - heldNum (digs (t.drop k)) else heldNum (digs (t.drop k)) := by
        rw [← e5]
        by_cases c : (t.drop k).head? = some 95
        · rw [if_pos c, if_pos (beq_iff_eq.mpr c)]
        · rw [if_neg c, if_neg (fun z => c (beq_iff_eq.mp z))]
      have e7 : (digs (t.drop k)).length = runLen isDigit (t.drop j) := by rw [e1]; rfl
      rw [e6, e5, e2, e3, e7]
    · rw [e3, e1] at hc
      exact takeWhile_all _ _ hc
  by_cases c : t[k] = 95
  · have hb : decide (V.int ((t[k] : Nat) : Int) = V.int 95) = true := decide_eq_true (by rw [c]; rfl)
    rw [hb]
    obtain ⟨g1, g2, g3⟩ := go true (k + 1) (by rw [decide_eq_true c]) (by rw [if_pos c]) hk true rfl
    refine ⟨_, rfl, _, rfl, iteT ⟨_, rfl, _, _, rfl, rfl, ?_⟩⟩
    refine ⟨_, rfl, _, rfl, a, t, k + 1, rfl, hS, hz, hk, ?_⟩
    refine ⟨_, rfl, _, rfl, _, rfl, _, rfl, a, t, k + 1, _, true, rfl, hS, hz, g2, _, rfl, ?_⟩
    cases hg : goodDig ((t.drop (k + 1)).take (runLen isDigit (t.drop (k + 1)))) true with
    | false =>
      rw [hg, if_neg Bool.false_ne_true] at g1
      rw [g1] at q
      exact iteT ⟨_, rfl, new_tok fun x H2 e h => q _ _ e h⟩
    | true =>
      rw [hg, if_pos rfl] at g1
      rw [g1] at q
      refine iteF ⟨_, rfl, _, rfl, _, rfl, a, t, k + 1, _, rfl, hS, hz, g2, g3, ?_⟩
      refine ⟨_, rfl, _, rfl, iteT ⟨_, rfl, _, rfl, _, rfl, new_tok fun x H2 e h => q _ _ e h⟩⟩
  · have hb : decide (V.int ((t[k] : Nat) : Int) = V.int 95) = false := decide_eq_false (by intro z; have := V.int.inj z; omega)
    rw [hb]
    obtain ⟨g1, g2, g3⟩ := go false k (by rw [decide_eq_false c]) (by rw [if_neg c]) (Nat.le_of_lt hk) false rfl
    refine ⟨_, rfl, _, rfl, iteF ⟨_, rfl, ?_⟩⟩
    refine ⟨_, rfl, _, rfl, a, t, k, rfl, hS, hz, Nat.le_of_lt hk, ?_⟩
    refine ⟨_, rfl, _, rfl, _, rfl, _, rfl, a, t, k, _, false, rfl, hS, hz, g2, _, rfl, ?_⟩
    cases hg : goodDig ((t.drop k).take (runLen isDigit (t.drop k))) false with
    | false =>
      rw [hg, if_neg Bool.false_ne_true] at g1
      rw [g1] at q
      exact iteT ⟨_, rfl, new_tok fun x H2 e h => q _ _ e h⟩
    | true =>
      rw [hg, if_pos rfl] at g1
      rw [g1] at q
      refine iteF ⟨_, rfl, _, rfl, _, rfl, a, t, k, _, rfl, hS, hz, g2, g3, ?_⟩
      refine ⟨_, rfl, _, rfl, iteF ⟨_, rfl, _, rfl, new_tok fun x H2 e h => q _ _ e h⟩⟩
end
end N
namespace N
open PySem L2
/-- read_token(text, at), at within the text -/
def spReadTok (K : PySem.W.Frag) (C : Addr) : Sp := fun vs H Q _ => ∃ (a : Addr) (t : List Nat) (k : Nat), vs = [.ref a, .int (k : Int)] ∧ SqL K H a (Bs t) ∧ t.length ≤ 100000 ∧ k < t.length ∧
  ∀ (v : V) (H' : Hp), Same H H' → TokV C H' v (tokOf (t.drop k) k) → Q v H'
section
variable {P : Program} {w : World} {K : PySem.W.Frag} {mg : Str → Option Value} {base : Heap} {CTok : Addr}
theorem sc_read_token : FnScope ["text", "at"] ["text", "at"] (defScope sReadToken) := ⟨rfl, rfl, rfl, by decide +kernel, rfl, by decide +kernel, by decide +kernel⟩
theorem ok_read_token (T : Top1 K mg "read_token" sReadToken ["text", "at"]) (c_SIGNS : CT K mg "SIGNS" [91, 58, 93]) (D_Token : DefC P w K mg base "Token" CTok 1 ["self", "kind", "number", "stop"] (spTokenInit CTok)) (D_read_number : Def P w K mg base CX0 "read_number" 3 ["text", "at"] (spReadNum K CTok)) : Def P w K mg base CX0 "read_token" 4 ["text", "at"] (spReadTok K CTok) := by
  refine T.ok sc_read_token (fun vs H Q E h => ?_) (fun f cdv A outer s H vs Q E hr h => ?_)
  · obtain ⟨a, t, k, rfl, _⟩ := h
    rfl
  obtain ⟨a, t, k, rfl, hS, hz, hk, q⟩ := h
  refine ⟨_, (pss_cons (ps_if (pt_cmpR op_in_seq (pe_ix ix_list (pv 0) (pv 1) (fun _ _ => rfl)) (pe_ct c_SIGNS) rfl) (pss_one (ps_ret (pe_new D_Token (hr.mono (by decide)) (pa_cons (pe_ix ix_list (pv 0) (pv 1) (fun _ _ => rfl)) (pa_cons pe_int (pa_cons (pe_op op_add (pv 1) pe_int) pa_nil)))))) pss_nil) (pss_one (ps_ret (pe_fn D_read_number (hr.mono (by decide)) pass0 (pa_cons (pv 0) (pa_cons (pv 1) pa_nil)))))), ?_⟩
  have hc : t[((k : Int)).toNat]? = some t[k] := by
    rw [Int.toNat_natCast]
    exact List.getElem?_eq_getElem hk
  have hdr : t.drop k = t[k] :: t.drop (k + 1) := List.drop_eq_getElem_cons hk
  refine ⟨_, rfl, _, rfl, a, _, _, _, rfl, rfl, hS, Bs_atI (by omega) hc, fun b hT => ⟨b, _, rfl, .inr (hT _), rfl, rfl, _, rfl, ?_⟩⟩
  rw [sign_in]
  show if isSign t[k] = true then _ else _
  rw [hdr] at q
  unfold tokOf at q
  cases hs : isSign t[k] with
  | true =>
    simp only [hs, if_true] at q
    exact iteT ⟨_, rfl, _, rfl, a, _, _, _, rfl, rfl, hS, Bs_atI (by omega) hc, _, rfl, _, _, rfl, rfl, new_tok fun x H2 e h => q _ _ e h⟩
  | false =>
    simp only [hs, Bool.false_eq_true, if_false] at q
    rw [← hdr] at q
    exact iteF ⟨_, rfl, _, rfl, a, t, k, rfl, hS, hz, hk, q⟩
end
end N
namespace N
open PySem L2
def spAfterNum : Sp := fun vs H Q _ => ∃ (st n : Int), vs = [.int st, .int n] ∧ Q (.int (afterNum st n)) H
section
variable {P : Program} {w : World} {K : PySem.W.Frag} {mg : Str → Option Value} {base : Heap}
theorem sc_state_after_number : FnScope ["state", "number"] ["state", "number"] (defScope sStateAfterNumber) := ⟨rfl, rfl, rfl, by decide +kernel, rfl, by decide +kernel, by decide +kernel⟩
theorem ok_state_after_number (T : Top1 K mg "state_after_number" sStateAfterNumber ["state", "number"]) (c_FAULT : CI mg "FAULT" 4) (c_EXTENTS : CI mg "EXTENTS" 1) (c_MEMBERS : CI mg "MEMBERS" 2) (c_START : CI mg "START" 0) (c_DONE : CI mg "DONE" 3) : Def P w K mg base CX0 "state_after_number" 1 ["state", "number"] (spAfterNum) := by
  refine T.ok sc_state_after_number (fun vs H Q E h => ?_) (fun f cdv A outer s H vs Q E hr h => ?_)
  · obtain ⟨st, n, rfl, _⟩ := h
    rfl
  obtain ⟨st, n, rfl, q⟩ := h
  refine ⟨_, (pss_cons (ps_if (pt_cmpR op_eq (pv 0) (pe_ci c_START) (nomark _)) (pss_one (ps_ret (pe_ci c_DONE))) pss_nil) (pss_cons (ps_if (pt_cmpR op_eq (pv 0) (pe_ci c_MEMBERS) (nomark _)) (pss_one (ps_ret (pe_ci c_MEMBERS))) pss_nil) (pss_cons (ps_if (PW.pt (pw_and (pt_cmpR op_eq (pv 0) (pe_ci c_EXTENTS) (nomark _)) (pw_and1 (pt_cmpR op_ge (pv 1) pe_int (nomark _))))) (pss_one (ps_ret (pe_ci c_EXTENTS))) pss_nil) (pss_one (ps_ret (pe_ci c_FAULT)))))), ?_⟩
  unfold afterNum at q
  refine ⟨_, rfl, rfl, _, rfl, ?_⟩
  by_cases h0 : st = 0
  · rw [if_pos h0] at q
    exact itT (by rw [h0]) q
  rw [if_neg h0] at q
  refine itF (fun z => h0 (V.int.inj z)) ⟨_, rfl, rfl, _, rfl, ?_⟩
  by_cases h2 : st = 2
  · rw [if_pos h2] at q
    exact itT (by rw [h2]) q
  rw [if_neg h2] at q
  refine itF (fun z => h2 (V.int.inj z)) ⟨_, rfl, rfl, _, rfl, ?_⟩
  by_cases h1 : st = 1
  · refine itT (by rw [h1]) ⟨_, rfl, _, _, rfl, rfl, _, rfl, ?_⟩
    by_cases hn : 0 ≤ n
    · rw [if_pos ⟨h1, hn⟩] at q
      exact itT hn q
    · rw [if_neg (fun z => hn z.2)] at q
      exact itF hn q
  · rw [if_neg (fun z => h1 z.1)] at q
    exact itF (fun z => h1 (V.int.inj z)) q
end
end N
namespace N
open PySem L2
def spAfterCl : Sp := fun vs H Q _ => ∃ (lv : Int), vs = [.int lv] ∧ Q (.int (afterCl lv)) H
section
variable {P : Program} {w : World} {K : PySem.W.Frag} {mg : Str → Option Value} {base : Heap}
theorem sc_state_after_closing : FnScope ["level"] ["level"] (defScope sStateAfterClosing) := ⟨rfl, rfl, rfl, by decide +kernel, rfl, by decide +kernel, by decide +kernel⟩
theorem ok_state_after_closing (T : Top1 K mg "state_after_closing" sStateAfterClosing ["level"]) (c_MEMBERS : CI mg "MEMBERS" 2) (c_DONE : CI mg "DONE" 3) : Def P w K mg base CX0 "state_after_closing" 1 ["level"] (spAfterCl) := by
  refine T.ok sc_state_after_closing (fun vs H Q E h => ?_) (fun f cdv A outer s H vs Q E hr h => ?_)
  · obtain ⟨lv, rfl, _⟩ := h
    rfl
  obtain ⟨lv, rfl, q⟩ := h
  refine ⟨_, (pss_cons (ps_if (pt_cmpR op_eq (pv 0) pe_int (nomark _)) (pss_one (ps_ret (pe_ci c_DONE))) pss_nil) (pss_one (ps_ret (pe_ci c_MEMBERS)))), ?_⟩
  unfold afterCl at q
  refine ⟨_, rfl, rfl, _, rfl, ?_⟩
  by_cases h0 : lv = 0
  · rw [if_pos h0] at q
    exact itT (by rw [h0]) q
  · rw [if_neg h0] at q
    exact itF (fun z => h0 (V.int.inj z)) q
end
end N
namespace N
open PySem L2
def spAdvance (C : Addr) : Sp := fun vs H Q _ => ∃ (st lv : Int) (v : V) (k : Tk), vs = [.int st, .int lv, v] ∧ TokV C H v k ∧
  ∀ p, H p = none → Q (.ref p) (upd H p (.tup [.int (adv st lv k).1, .int (adv st lv k).2]))
section
variable {P : Program} {w : World} {K : PySem.W.Frag} {mg : Str → Option Value} {base : Heap} {CTok : Addr}
theorem sc_advance : FnScope ["state", "level", "token"] ["state", "level", "token"] (defScope sAdvance) := ⟨rfl, rfl, rfl, by decide +kernel, rfl, by decide +kernel, by decide +kernel⟩
theorem ok_advance (T : Top1 K mg "advance" sAdvance ["state", "level", "token"]) (c_FAULT : CI mg "FAULT" 4) (c_MEMBERS : CI mg "MEMBERS" 2) (c_CLOSING : CI mg "CLOSING" 93) (c_EXTENTS : CI mg "EXTENTS" 1) (c_COLON : CI mg "COLON" 58) (c_START : CI mg "START" 0) (c_OPENING : CI mg "OPENING" 91) (c_NUMBER : CI mg "NUMBER" 1) (F_Token : ClF K CTok ["kind", "number", "stop"]) (D_state_after_closing : Def P w K mg base CX0 "state_after_closing" 1 ["level"] (spAfterCl)) (D_state_after_number : Def P w K mg base CX0 "state_after_number" 1 ["state", "number"] (spAfterNum)) : Def P w K mg base CX0 "advance" 2 ["state", "level", "token"] (spAdvance CTok) := by
  refine T.ok sc_advance (fun vs H Q E h => ?_) (fun f cdv A outer s H vs Q E hr h => ?_)
  · obtain ⟨st, lv, v, k, rfl, _⟩ := h
    rfl
  obtain ⟨st, lv, v, k, rfl, ⟨x, dx, rfl, hx⟩, q⟩ := h
  refine ⟨_, (pss_cons (ps_if (pt_cmpR op_eq (pe_fld (pv 2) rfl) (pe_ci c_NUMBER) (nomark _)) (pss_one (ps_ret (pe_tup (pa_cons (pe_fn D_state_after_number (hr.mono (by decide)) pass0 (pa_cons (pv 0) (pa_cons (pe_fld (pv 2) rfl) pa_nil))) (pa_cons (pv 1) pa_nil))))) pss_nil) (pss_cons (ps_if (PW.pt (pw_and (pt_cmpR op_eq (pe_fld (pv 2) rfl) (pe_ci c_OPENING) (nomark _)) (pw_and1 (PW.pt (pw_or (pt_cmpR op_eq (pv 0) (pe_ci c_START) (nomark _)) (pw_or1 (pt_cmpR op_eq (pv 0) (pe_ci c_MEMBERS) (nomark _)))))))) (pss_one (ps_ret (pe_tup (pa_cons (pe_ci c_EXTENTS) (pa_cons (pe_op op_add (pv 1) pe_int) pa_nil))))) pss_nil) (pss_cons (ps_if (PW.pt (pw_and (pt_cmpR op_eq (pe_fld (pv 2) rfl) (pe_ci c_COLON) (nomark _)) (pw_and1 (pt_cmpR op_eq (pv 0) (pe_ci c_EXTENTS) (nomark _))))) (pss_one (ps_ret (pe_tup (pa_cons (pe_ci c_MEMBERS) (pa_cons (pv 1) pa_nil))))) pss_nil) (pss_cons (ps_if (PW.pt (pw_and (pt_cmpR op_eq (pe_fld (pv 2) rfl) (pe_ci c_CLOSING) (nomark _)) (pw_and1 (pt_cmpR op_eq (pv 0) (pe_ci c_MEMBERS) (nomark _))))) (pss_one (ps_ret (pe_tup (pa_cons (pe_fn D_state_after_closing (hr.mono (by decide)) pass0 (pa_cons (pe_op op_sub (pv 1) pe_int) pa_nil)) (pa_cons (pe_op op_sub (pv 1) pe_int) pa_nil))))) pss_nil) (pss_one (ps_ret (pe_tup (pa_cons (pe_ci c_FAULT) (pa_cons (pv 1) pa_nil))))))))), ?_⟩
  have two : ∀ xs : List V, xs.length = 2 → xs.length ≤ sizeLine := fun xs h => by rw [h]; decide
  have gK := F_Token.no "kind" (by simp)
  have gN := F_Token.no "number" (by simp)
  have ne : ∀ {i j : Int}, ¬ i = j → ¬ V.int i = V.int j := fun h z => h (V.int.inj z)
  refine ⟨_, rfl, x, CTok, dx, _, _, rfl, hx, F_Token.cl, gK, tokF_kind _ _ _, rfl, _, rfl, ?_⟩
  by_cases h1 : k.kind = 1
  · have e : adv st lv k = (afterNum st k.num, lv) := by unfold adv; rw [if_pos h1]
    rw [e] at q
    refine itT (by rw [h1]) ⟨_, rfl, _, rfl, x, CTok, dx, _, _, rfl, hx, F_Token.cl, gN, tokF_number _ _ _, st, k.num, rfl, ?_⟩
    exact ⟨_, rfl, two _ rfl, q⟩
  refine itF (ne h1) ⟨_, rfl, x, CTok, dx, _, _, rfl, hx, F_Token.cl, gK, tokF_kind _ _ _, rfl, _, rfl, ?_⟩
  -- the last two tests, from the kind's point of view
  by_cases h91 : k.kind = 91
  · have last : ¬ (st = 0 ∨ st = 2) → adv st lv k = (4, lv) := fun h => by
      unfold adv
      rw [if_neg h1, if_neg (fun z => h z.2), if_neg (fun z => by omega), if_neg (fun z => by omega)]
    have yes : (st = 0 ∨ st = 2) → adv st lv k = (1, lv + 1) := fun h => by
      unfold adv
      rw [if_neg h1, if_pos ⟨h91, h⟩]
    refine itT (by rw [h91]) ⟨_, rfl, rfl, _, rfl, ?_⟩
    by_cases h0 : st = 0
    · rw [yes (.inl h0)] at q
      exact itT (by rw [h0]) (iteT ⟨_, rfl, _, _, rfl, rfl, two _ rfl, q⟩)
    refine itF (ne h0) ⟨_, rfl, rfl, _, rfl, ?_⟩
    by_cases h2 : st = 2
    · rw [yes (.inr h2)] at q
      exact itT (by rw [h2]) ⟨_, rfl, _, _, rfl, rfl, two _ rfl, q⟩
    rw [last (by omega)] at q
    refine itF (ne h2) ?_
    refine ⟨_, rfl, x, CTok, dx, _, _, rfl, hx, F_Token.cl, gK, tokF_kind _ _ _, rfl, _, rfl, itF (ne (by omega)) (iteF ?_)⟩
    refine ⟨_, rfl, x, CTok, dx, _, _, rfl, hx, F_Token.cl, gK, tokF_kind _ _ _, rfl, _, rfl, itF (ne (by omega)) (iteF ?_)⟩
    exact ⟨_, rfl, two _ rfl, q⟩
  refine itF (ne h91) (iteF ⟨_, rfl, x, CTok, dx, _, _, rfl, hx, F_Token.cl, gK, tokF_kind _ _ _, rfl, _, rfl, ?_⟩)
  by_cases h58 : k.kind = 58
  · refine itT (by rw [h58]) ⟨_, rfl, rfl, _, rfl, ?_⟩
    by_cases hs : st = 1
    · have e : adv st lv k = (2, lv) := by
        unfold adv
        rw [if_neg h1, if_neg (fun z => h91 z.1), if_pos ⟨h58, hs⟩]
      rw [e] at q
      exact itT (by rw [hs]) ⟨_, rfl, two _ rfl, q⟩
    · have e : adv st lv k = (4, lv) := by
        unfold adv
        rw [if_neg h1, if_neg (fun z => h91 z.1), if_neg (fun z => hs z.2), if_neg (fun z => by omega)]
      rw [e] at q
      refine itF (ne hs) ?_
      refine ⟨_, rfl, x, CTok, dx, _, _, rfl, hx, F_Token.cl, gK, tokF_kind _ _ _, rfl, _, rfl, itF (ne (by omega)) (iteF ?_)⟩
      exact ⟨_, rfl, two _ rfl, q⟩
  refine itF (ne h58) (iteF ⟨_, rfl, x, CTok, dx, _, _, rfl, hx, F_Token.cl, gK, tokF_kind _ _ _, rfl, _, rfl, ?_⟩)
  have e0 : adv st lv k = if k.kind = 93 ∧ st = 2 then (afterCl (lv - 1), lv - 1) else (4, lv) := by
    unfold adv
    rw [if_neg h1, if_neg (fun z => h91 z.1), if_neg (fun z => h58 z.1)]
  rw [e0] at q
  by_cases h93 : k.kind = 93
  · refine itT (by rw [h93]) ⟨_, rfl, rfl, _, rfl, ?_⟩
    by_cases hs : st = 2
    · rw [if_pos ⟨h93, hs⟩] at q
      exact itT (by rw [hs]) ⟨_, rfl, _, _, rfl, rfl, _, rfl, _, rfl, _, _, rfl, rfl, two _ rfl, q⟩
    · rw [if_neg (fun z => hs z.2)] at q
      exact itF (ne hs) ⟨_, rfl, two _ rfl, q⟩
  · rw [if_neg (fun z => h93 z.1)] at q
    exact itF (ne h93) (iteF ⟨_, rfl, two _ rfl, q⟩)
end
end N
namespace N
open PySem L2
/-- the values stand for these tokens -/
def TokVs (C : Addr) (H : Hp) (us : List V) (ks : List Tk) : Prop := Paired (TokV C H) us ks
theorem TokVs.mono {C : Addr} {H H' : Hp} (e : Same H H') : ∀ {us : List V} {ks : List Tk}, TokVs C H us ks → TokVs C H' us ks
  | _, _, .nil => .nil
  | _, _, .cons a b => .cons (a.mono e) (TokVs.mono e b)
theorem Paired.snoc {α β : Type} {R : α → β → Prop} : ∀ {xs : List α} {ys : List β} {x : α} {y : β}, Paired R xs ys → R x y → Paired R (xs ++ [x]) (ys ++ [y])
  | _, _, _, _, .nil, h => .cons h .nil
  | _, _, _, _, .cons a b, h => .cons a (Paired.snoc b h)
/-- scan(text): the tokens and the fault -/
def spScan (K : PySem.W.Frag) (C : Addr) : Sp := fun vs H Q _ => ∃ (a : Addr) (t : List Nat), vs = [.ref a] ∧ SqL K H a (Bs t) ∧ t.length ≤ 100000 ∧
  ∀ (p l : Addr) (us : List V) (H' : Hp), Same H H' → H' p = some (.tup [.ref l, .int (scanAll t).2]) → H' l = some (.lst us) → TokVs C H' us (scanAll t).1 → Q (.ref p) H'
section
variable {P : Program} {w : World} {K : PySem.W.Frag} {mg : Str → Option Value} {base : Heap} {CTok : Addr}
theorem sc_scan : FnScope ["text", "tokens", "state", "level", "at", "token"] ["text"] (defScope sScan) := ⟨rfl, rfl, rfl, by decide +kernel, rfl, by decide +kernel, by decide +kernel⟩
theorem ok_scan (T : Top1 K mg "scan" sScan ["text"]) (c_DONE : CI mg "DONE" 3) (c_FAULT : CI mg "FAULT" 4) (c_START : CI mg "START" 0) (b_len : mg "len" = none) (F_Token : ClF K CTok ["kind", "number", "stop"]) (D_skip_blanks : Def P w K mg base CX0 "skip_blanks" 1 ["text", "at"] (spSkip K)) (D_advance : Def P w K mg base CX0 "advance" 2 ["state", "level", "token"] (spAdvance CTok)) (D_read_token : Def P w K mg base CX0 "read_token" 4 ["text", "at"] (spReadTok K CTok)) : Def P w K mg base CX0 "scan" 5 ["text"] (spScan K CTok) := by
  refine T.ok sc_scan (fun vs H Q E h => ?_) (fun f cdv A outer s H vs Q E hr h => ?_)
  · obtain ⟨a, t, rfl, _⟩ := h
    rfl
  obtain ⟨a, t, rfl, hS, hz, q⟩ := h
  refine ⟨_, (pss_cons (ps_set (i := 1) sc_scan.nd rfl (Or.inl rfl) (pe_lst pa_nil)) (pss_cons (ps_set (i := 2) sc_scan.nd rfl (Or.inl rfl) (pe_ci c_START)) (pss_cons (ps_set (i := 3) sc_scan.nd rfl (Or.inl rfl) pe_int) (pss_cons (ps_set (i := 4) sc_scan.nd rfl (Or.inl rfl) (pe_fn D_skip_blanks (hr.mono (by decide)) pass0 (pa_cons (pv 0) (pa_cons pe_int pa_nil)))) (pss_cons (ps_while PassesOwn.never (pt_cmpR op_lt (pv 4) (pe_callB call_len_seq (by rfl) b_len (by decide +kernel) (pa_cons (pv 0) pa_nil)) (nomark _)) (pss_cons (ps_set (i := 5) sc_scan.nd rfl (Or.inl rfl) (pe_fn D_read_token (hr.mono (by decide)) pass0 (pa_cons (pv 0) (pa_cons (pv 4) pa_nil)))) (pss_cons (ps_asg (pe_fn D_advance (hr.mono (by decide)) pass0 (pa_cons (pv 2) (pa_cons (pv 3) (pa_cons (pv 5) pa_nil)))) (pg_tup rfl (pgs_cons (pg_name (i := 2) sc_scan.nd rfl (Or.inl rfl)) (pgs_cons (pg_name (i := 3) sc_scan.nd rfl (Or.inl rfl)) pgs_nil)))) (pss_cons (ps_if (pt_cmpR op_eq (pv 2) (pe_ci c_FAULT) (nomark _)) (pss_one (ps_ret (pe_tup (pa_cons (pv 1) (pa_cons (pv 4) pa_nil))))) pss_nil) (pss_cons (ps_expr (pe_bm PySem.F.plainAttrs_list PySem.F.slot_list_append PySem.F.type_list_append mt_append (pv 1) (pa_cons (pv 5) pa_nil))) (pss_one (ps_set (i := 4) sc_scan.nd rfl (Or.inl rfl) (pe_fn D_skip_blanks (hr.mono (by decide)) pass0 (pa_cons (pv 0) (pa_cons (pe_fld (pv 5) rfl) pa_nil)))))))))) (pss_cons (ps_if (pt_cmpR op_ne (pv 2) (pe_ci c_DONE) (nomark _)) (pss_one (ps_ret (pe_tup (pa_cons (pv 1) (pa_cons (pe_callB call_len_seq (by rfl) b_len (by decide +kernel) (pa_cons (pv 0) pa_nil)) pa_nil))))) pss_nil) (pss_one (ps_ret (pe_tup (pa_cons (pv 1) (pa_cons (pe_un un_neg pe_int) pa_nil))))))))))), ?_⟩
  have two : ∀ xs : List V, xs.length = 2 → xs.length ≤ sizeLine := fun xs h => by rw [h]; decide
  refine ⟨Nat.zero_le _, fun l hl => ?_⟩
  have s0 : Same H (upd H l (.lst [])) := same_new hl _
  refine ⟨_, rfl, a, t, 0, rfl, s0.seq hS, hz, Nat.zero_le _, ?_⟩
  refine ⟨fun m σ H' => ∃ (at_ : Nat) (st lv : Int) (us : List V) (acc : List Tk) (v : Option V), σ = [some (.ref a), some (.ref l), some (.int st), some (.int lv), some (.int (at_ : Int)), v] ∧ Same H H' ∧ H' l = some (.lst us) ∧ TokVs CTok H' us acc ∧
      t.length + 1 ≤ at_ + m ∧ at_ ≤ t.length ∧ acc.length + m ≤ t.length + 1 ∧ 0 < m ∧ scanF m t at_ st lv acc = scanAll t, ⟨t.length + 1, ?_⟩, ?_⟩
  · refine ⟨_, _, _, _, [], none, rfl, s0, upd_same, .nil, by omega, ?_, by simp, by omega, ?_⟩
    · have := runLen_le isBlank t
      simpa using this
    · unfold scanAll
      simp
  rintro m σ H1 ⟨at_, st, lv, us, acc, v, rfl, s1, hl1, hT, hm, hat, hacc, hpos, hF⟩
  obtain ⟨m, rfl⟩ : ∃ m', m = m' + 1 := ⟨m - 1, by omega⟩
  refine ⟨_, rfl, _, rfl, a, _, rfl, .inl (s1.seq hS), _, _, rfl, rfl, _, rfl, ?_⟩
  rw [Bs_len]
  unfold scanF at hF
  by_cases hlt : at_ < t.length
  · rw [if_pos hlt] at hF
    refine itT (by omega) ⟨fun σ' H' => _, fun σ' H' h => ⟨m, Nat.lt_succ_self _, h⟩, ?_⟩
    refine ⟨_, rfl, _, rfl, a, t, at_, rfl, s1.seq hS, hz, hlt, fun x H2 s2 hx => ?_⟩
    refine ⟨_, rfl, _, rfl, _, rfl, st, lv, x, _, rfl, hx, fun p hp => ?_⟩
    have s3 : Same H2 (upd H2 p (.tup [.int (adv st lv (tokOf (t.drop at_) at_)).1, .int (adv st lv (tokOf (t.drop at_) at_)).2])) := same_new hp _
    refine ⟨p, _, rfl, SqT.of upd_same, rfl, _, _, rfl, _, _, rfl, rfl, ?_⟩
    refine ⟨_, rfl, rfl, _, rfl, ?_⟩
    dsimp only at hF
    by_cases h4 : (adv st lv (tokOf (t.drop at_) at_)).1 = 4
    · rw [if_pos h4] at hF
      refine itT (by rw [h4]) ⟨_, rfl, _, rfl, two _ rfl, fun r hr' => ?_⟩
      have e : scanAll t = (acc, (at_ : Int)) := hF.symm
      have s4 := same_new hr' (.tup [.ref l, .int (at_ : Int)])
      rw [e] at q
      exact q r l us _ (s1.trans (s2.trans (s3.trans s4))) upd_same (s4 _ _ (s3 _ _ (s2 _ _ hl1))) (((hT.mono s2).mono s3).mono s4)
    · rw [if_neg h4] at hF
      obtain ⟨x', dx, rfl, hx'⟩ := hx
      have hst := (tokOf_stop hlt).resolve_left fun z => h4 (adv_zero _ _ _ z)
      obtain ⟨s', e1, e2, e3⟩ := hst
      have hlen : us.length = acc.length := Paired.length hT
      have nlx : x' ≠ l := ne_of (s3 _ _ hx') (s3 _ _ (s2 _ _ hl1)) (by intro z; cases z)
      refine itF (fun z => h4 (V.int.inj z)) ⟨_, rfl, .inl ⟨rfl, _, SqL.of (s3 _ _ (s2 _ _ hl1))⟩, _, rfl, l, us, _, rfl, rfl, s3 _ _ (s2 _ _ hl1), ?_, ?_⟩
      · exact Nat.lt_of_le_of_lt (show us.length ≤ 200000 by omega) (by decide)
      have s5 : Same H (upd (upd H2 p (.tup [.int (adv st lv (tokOf (t.drop at_) at_)).1, .int (adv st lv (tokOf (t.drop at_) at_)).2])) l (.lst (us ++ [.ref x']))) := Same.mut (s1.trans (s2.trans s3)) hl
      have hx5 := hx'
      refine ⟨_, rfl, _, rfl, x', CTok, dx, _, _, rfl, Eq.trans (upd_ne nlx) (s3 _ _ hx'), F_Token.cl, F_Token.no "stop" (by simp), tokF_stop _ _ _, a, t, s', ?_, s5.seq hS, hz, e3, ?_⟩
      · rw [e1]
        rfl
      rw [e1, Int.toNat_natCast] at hF
      refine ⟨_, _, _, us ++ [.ref x'], acc ++ [tokOf (t.drop at_) at_], some (.ref x'), rfl, s5, upd_same, ?_, ?_, ?_, ?_, ?_, hF⟩
      · have old : ∀ {ws : List V} {ks : List Tk}, TokVs CTok H1 ws ks → TokVs CTok (upd (upd H2 p (.tup [.int (adv st lv (tokOf (t.drop at_) at_)).1, .int (adv st lv (tokOf (t.drop at_) at_)).2])) l (.lst (us ++ [.ref x']))) ws ks := by
          intro ws ks h
          induction h with
          | nil => exact .nil
          | cons a' _ ih =>
            obtain ⟨y, dy, ey, hy⟩ := a'
            refine .cons ⟨y, dy, ey, ?_⟩ ih
            rw [upd_ne (ne_of hy hl1 (by intro z; cases z))]
            exact s3 _ _ (s2 _ _ hy)
        refine Paired.snoc (old hT) ⟨x', dx, rfl, ?_⟩
        rw [upd_ne nlx]
        exact s3 _ _ hx'
      · have := runLen_le isBlank (t.drop s')
        omega
      · have := runLen_le isBlank (t.drop s')
        rw [List.length_drop] at this
        omega
      · rw [List.length_append, List.length_singleton]
        omega
      · have := runLen_le isBlank (t.drop s')
        rw [List.length_drop] at this
        omega
  · rw [if_neg hlt] at hF
    refine itF (by omega) ⟨_, rfl, rfl, _, rfl, ?_⟩
    by_cases h3 : st = 3
    · rw [if_pos h3] at hF
      have e3 : decide (V.int st = V.int 3) = true := decide_eq_true (by rw [h3])
      rw [e3]
      refine iteF ⟨_, rfl, _, rfl, two _ rfl, fun r hr' => ?_⟩
      have s4 := same_new hr' (.tup [.ref l, .int (-1)])
      rw [← hF] at q
      exact q r l us _ (s1.trans s4) upd_same (s4 _ _ hl1) (hT.mono s4)
    · rw [if_neg h3] at hF
      have e3 : decide (V.int st = V.int 3) = false := decide_eq_false (fun z => h3 (V.int.inj z))
      rw [e3]
      refine iteT ⟨_, rfl, _, rfl, a, _, rfl, .inl (s1.seq hS), two _ rfl, fun r hr' => ?_⟩
      rw [Bs_len]
      have s4 := same_new hr' (.tup [.ref l, .int ((t.length : Nat) : Int)])
      rw [← hF] at q
      exact q r l us _ (s1.trans s4) upd_same (s4 _ _ hl1) (hT.mono s4)
end
end N
/-! ### Plain Lean: the scan against the specification's reading -/
namespace N
open Vaarrm (Told Token Toks tokensIn tokens extents values readTold here)
/-- the specification's tokens of a suffix, with fuel enough -/
def TS (whole : Nat) (l : List Nat) : Vaarrm.Toks := tokensIn whole (l.length + 1) l
theorem spec_blank (c : Nat) : Vaarrm.blank c = isBlank c := rfl
theorem spec_digit (c : Nat) : Vaarrm.digit c = isDigit c := rfl
theorem dropWhile_len {p : Nat → Bool} : ∀ l : List Nat, (l.dropWhile p).length ≤ l.length
  | [] => Nat.le_refl _
  | a :: l => by
    by_cases h : p a = true
    · rw [List.dropWhile_cons_of_pos h]
      exact Nat.le_succ_of_le (dropWhile_len l)
    · rw [List.dropWhile_cons_of_neg h]
      exact Nat.le_refl _
theorem dropWhile_drop {p : Nat → Bool} : ∀ l : List Nat, l.dropWhile p = l.drop (runLen p l)
  | [] => rfl
  | a :: l => by
    unfold runLen
    by_cases h : p a = true
    · rw [List.dropWhile_cons_of_pos h, List.takeWhile_cons_of_pos h, dropWhile_drop l]
      rfl
    · rw [List.dropWhile_cons_of_neg h, List.takeWhile_cons_of_neg h]
      rfl
/-- what a number's token at c :: r leaves -/
def restOf (c : Nat) (r : List Nat) : List Nat := if c = 95 then r.dropWhile isDigit else (c :: r).dropWhile isDigit
theorem restOf_len (c : Nat) (r : List Nat) (h : goodDig (digs (c :: r)) (c == 95) = true) : (restOf c r).length ≤ r.length := by
  unfold restOf
  by_cases hc : c = 95
  · rw [if_pos hc]
    exact dropWhile_len r
  · rw [if_neg hc]
    have e : digs (c :: r) = (c :: r).takeWhile isDigit := by
      unfold digs
      rw [if_neg (by intro z; exact hc (Option.some.inj z))]
    rw [e] at h
    by_cases hd : isDigit c = true
    · rw [List.dropWhile_cons_of_pos hd]
      exact dropWhile_len r
    · rw [List.takeWhile_cons_of_neg hd] at h
      cases h
theorem good_iff (c : Nat) (r : List Nat) : ((c = 95 ∨ Vaarrm.digit c = true) ∧ (digs (c :: r)).isEmpty = false ∧ ((digs (c :: r)).length = 1 ∨ (digs (c :: r)).head? ≠ some 48) ∧ ¬ (c = 95 ∧ digs (c :: r) = [48])) ↔ goodDig (digs (c :: r)) (c == 95) = true := by
  have hdig : (digs (c :: r)).isEmpty = false → c = 95 ∨ Vaarrm.digit c = true := fun h => by
    by_cases hc : c = 95
    · exact .inl hc
    · refine .inr ?_
      unfold digs at h
      rw [if_neg (by intro z; exact hc (Option.some.inj z))] at h
      by_cases hd : isDigit c = true
      · exact hd
      · rw [List.takeWhile_cons_of_neg hd] at h
        cases h
  generalize digs (c :: r) = ds at *
  unfold goodDig
  cases ds with
  | nil => simp
  | cons d ds =>
    have h95 : (c = 95 ∨ Vaarrm.digit c = true) := hdig rfl
    by_cases hd : d = 48
    · subst hd
      cases ds with
      | nil =>
        by_cases hc : c = 95
        · subst hc; simp
        · simp [hc]
          exact h95.resolve_left hc
      | cons e ds => simp
    · simp [hd, h95]
theorem tokensIn_raw (whole k c : Nat) (r : List Nat) : tokensIn whole (k + 1) (c :: r) =
    if Vaarrm.blank c = true then tokensIn whole k r
    else if c = 91 ∨ c = 58 ∨ c = 93 then (whole - (r.length + 1), .sign c) :: tokensIn whole k r
    else if (c = 95 ∨ Vaarrm.digit c = true) ∧ (if c = 95 then r.takeWhile Vaarrm.digit else (c :: r).takeWhile Vaarrm.digit).isEmpty = false ∧ ((if c = 95 then r.takeWhile Vaarrm.digit else (c :: r).takeWhile Vaarrm.digit).length = 1 ∨ (if c = 95 then r.takeWhile Vaarrm.digit else (c :: r).takeWhile Vaarrm.digit).head? ≠ some 48) ∧ ¬ (c = 95 ∧ (if c = 95 then r.takeWhile Vaarrm.digit else (c :: r).takeWhile Vaarrm.digit) = [48]) then
      (whole - (r.length + 1), .num (if c = 95 then -((Vaarrm.valueOf (if c = 95 then r.takeWhile Vaarrm.digit else (c :: r).takeWhile Vaarrm.digit) : Nat) : Int) else ((Vaarrm.valueOf (if c = 95 then r.takeWhile Vaarrm.digit else (c :: r).takeWhile Vaarrm.digit) : Nat) : Int))) :: tokensIn whole k (if c = 95 then r.dropWhile Vaarrm.digit else (c :: r).dropWhile Vaarrm.digit)
    else [(whole - (r.length + 1), .none)] := rfl
theorem tokensIn_step (whole k c : Nat) (r : List Nat) : tokensIn whole (k + 1) (c :: r) =
    if isBlank c = true then tokensIn whole k r
    else if isSign c = true then (whole - (r.length + 1), .sign c) :: tokensIn whole k r
    else if goodDig (digs (c :: r)) (c == 95) = true then (whole - (r.length + 1), .num (if c = 95 then -((Vaarrm.valueOf (digs (c :: r)) : Nat) : Int) else ((Vaarrm.valueOf (digs (c :: r)) : Nat) : Int))) :: tokensIn whole k (restOf c r)
    else [(whole - (r.length + 1), .none)] := by
  have e1 : (if c = 95 then r.takeWhile Vaarrm.digit else (c :: r).takeWhile Vaarrm.digit) = digs (c :: r) := by
    unfold digs
    by_cases hc : c = 95
    · rw [if_pos hc, if_pos (by rw [hc]; rfl)]
      rfl
    · rw [if_neg hc, if_neg (by intro z; exact hc (Option.some.inj z))]
      rfl
  have e2 : (if c = 95 then r.dropWhile Vaarrm.digit else (c :: r).dropWhile Vaarrm.digit) = restOf c r := rfl
  rw [tokensIn_raw, e1, e2]
  have es : (c = 91 ∨ c = 58 ∨ c = 93) ↔ isSign c = true := by unfold isSign; simp
  simp only [spec_blank, es, good_iff]
/-- fuel enough is enough -/
theorem tokensIn_any (whole : Nat) : ∀ (n : Nat) (l : List Nat) (k : Nat), l.length ≤ n → l.length + 1 ≤ k → tokensIn whole k l = TS whole l
  | _, [], k, _, h => by
    obtain ⟨k, rfl⟩ : ∃ j, k = j + 1 := ⟨k - 1, by omega⟩
    rfl
  | 0, _ :: _, _, h, _ => by simp at h
  | n + 1, c :: r, k, hn, hk => by
    obtain ⟨k, rfl⟩ : ∃ j, k = j + 1 := ⟨k - 1, by omega⟩
    rw [List.length_cons] at hn hk
    unfold TS
    rw [List.length_cons, tokensIn_step, tokensIn_step]
    have a1 := tokensIn_any whole n r k (by omega) (by omega)
    have a2 := tokensIn_any whole n r (r.length + 1) (by omega) (by omega)
    rw [a1, a2]
    by_cases g : goodDig (digs (c :: r)) (c == 95) = true
    · have hl := restOf_len c r g
      have b1 := tokensIn_any whole n (restOf c r) k (by omega) (by omega)
      have b2 := tokensIn_any whole n (restOf c r) (r.length + 1) (by omega) (by omega)
      rw [b1, b2]
    · rw [if_neg g, if_neg g]
theorem TS_nil (whole : Nat) : TS whole [] = [(whole, .none)] := rfl
theorem TS_cons (whole c : Nat) (r : List Nat) : TS whole (c :: r) =
    if isBlank c = true then TS whole r
    else if isSign c = true then (whole - (r.length + 1), .sign c) :: TS whole r
    else if goodDig (digs (c :: r)) (c == 95) = true then (whole - (r.length + 1), .num (if c = 95 then -((Vaarrm.valueOf (digs (c :: r)) : Nat) : Int) else ((Vaarrm.valueOf (digs (c :: r)) : Nat) : Int))) :: TS whole (restOf c r)
    else [(whole - (r.length + 1), .none)] := by
  show tokensIn whole (r.length + 1 + 1) (c :: r) = _
  rw [tokensIn_step]
  by_cases g : goodDig (digs (c :: r)) (c == 95) = true
  · have hl := restOf_len c r g
    rw [tokensIn_any whole (r.length + 1) (restOf c r) (r.length + 1) (by omega) (by omega)]
    rfl
  · rw [if_neg g, if_neg g]
    rfl
theorem TS_blanks (whole : Nat) : ∀ l : List Nat, TS whole l = TS whole (l.drop (runLen isBlank l))
  | [] => rfl
  | c :: r => by
    by_cases h : isBlank c = true
    · have e : runLen isBlank (c :: r) = runLen isBlank r + 1 := by
        unfold runLen
        rw [List.takeWhile_cons_of_pos h]
        rfl
      rw [TS_cons, if_pos h, e, List.drop_succ_cons]
      exact TS_blanks whole r
    · have e : runLen isBlank (c :: r) = 0 := by
        unfold runLen
        rw [List.takeWhile_cons_of_neg h]
        rfl
      rw [e]
      rfl
/-- held at both ends -/
def heldZ (n : Int) : Int := if 1000000000000000001 < n then 1000000000000000001 else if n < -1000000000000000001 then -1000000000000000001 else n
theorem heldNum_value : ∀ (l : List Nat) (n : Int) (m : Nat), (∀ c ∈ l, isDigit c = true) → n = held (m : Int) → l.foldl (fun (n : Int) (c : Nat) => held (n * 10 + (c : Int) - 48)) n = held ((l.foldl (fun n c => 10 * n + (c - 48)) m : Nat) : Int)
  | [], n, m, _, h => h
  | c :: l, n, m, hd, h => by
    have hc : 48 ≤ c ∧ c ≤ 57 := of_decide_eq_true (hd c List.mem_cons_self)
    rw [List.foldl_cons, List.foldl_cons]
    refine heldNum_value l _ _ (fun x hx => hd x (List.mem_cons_of_mem _ hx)) ?_
    rw [h]
    unfold held
    split <;> split <;> split <;> omega
theorem heldNum_is (l : List Nat) (hd : ∀ c ∈ l, isDigit c = true) : heldNum l = held ((Vaarrm.valueOf l : Nat) : Int) := heldNum_value l 0 0 hd (by unfold held; rw [if_neg (by omega)]; rfl)
theorem digs_all (l : List Nat) : ∀ c ∈ digs l, isDigit c = true := fun c h => by
  unfold digs at h
  split at h
  · exact takeWhile_all _ _ h
  · exact takeWhile_all _ _ h
/-- one token of the scan against one of the specification; l not empty, its head no blank -/
inductive TokIs (whole : Nat) (l : List Nat) (k : Nat) : Prop
  | none (h : tokOf l k = ⟨0, 0, (k : Int)⟩) (e : TS whole l = [(k, .none)])
  | sign (c : Nat) (hc : c = 91 ∨ c = 58 ∨ c = 93) (h : tokOf l k = ⟨(c : Int), 0, ((k + 1 : Nat) : Int)⟩) (e : TS whole l = (k, .sign c) :: TS whole (l.drop 1))
  | num (n : Int) (s : Nat) (h : tokOf l k = ⟨1, heldZ n, ((k + s : Nat) : Int)⟩) (hs : 0 < s) (hl : s ≤ l.length) (e : TS whole l = (k, .num n) :: TS whole (l.drop s))
theorem tok_is (whole c : Nat) (r : List Nat) (hb : isBlank c = false) (hw : r.length + 1 ≤ whole) : TokIs whole (c :: r) (whole - (r.length + 1)) := by
  have eT := TS_cons whole c r
  rw [if_neg (by rw [hb]; exact Bool.false_ne_true)] at eT
  by_cases hs : isSign c = true
  · rw [if_pos hs] at eT
    refine .sign c (by unfold isSign at hs; simpa using hs) ?_ eT
    unfold tokOf
    simp only [hs, if_true]
    rfl
  rw [if_neg hs] at eT
  have hT : tokOf (c :: r) (whole - (r.length + 1)) = tokNum (c :: r) (whole - (r.length + 1)) := by
    unfold tokOf
    simp only [hs, if_false]
    rfl
  have hh : ((c :: r).head? == some 95) = (c == 95) := by
    by_cases hc : c = 95
    · subst hc; rfl
    · rw [beq_eq_false_iff_ne.mpr hc]
      exact beq_eq_false_iff_ne.mpr fun z => hc (Option.some.inj z)
  have hi : ∀ (a b : Int), (if (c :: r).head? = some 95 then a else b) = if c = 95 then a else b := fun a b => by
    by_cases hc : c = 95
    · rw [if_pos hc, if_pos (by rw [hc]; rfl)]
    · rw [if_neg hc, if_neg (by intro z; exact hc (Option.some.inj z))]
  have hin : ∀ (a b : Nat), (if (c :: r).head? = some 95 then a else b) = if c = 95 then a else b := fun a b => by
    by_cases hc : c = 95
    · rw [if_pos hc, if_pos (by rw [hc]; rfl)]
    · rw [if_neg hc, if_neg (by intro z; exact hc (Option.some.inj z))]
  by_cases g : goodDig (digs (c :: r)) (c == 95) = true
  · rw [if_pos g] at eT
    have er : restOf c r = (c :: r).drop ((if c = 95 then 1 else 0) + (digs (c :: r)).length) := by
      unfold restOf digs
      by_cases hc : c = 95
      · rw [if_pos hc, if_pos hc, if_pos (by rw [hc]; rfl), Nat.add_comm, List.drop_succ_cons, dropWhile_drop]
        rfl
      · rw [if_neg hc, if_neg hc, if_neg (by intro z; exact hc (Option.some.inj z)), Nat.zero_add, dropWhile_drop]
        rfl
    have hle := restOf_len c r g
    have hle' : (if c = 95 then 1 else 0) + (digs (c :: r)).length ≤ (c :: r).length := by
      rw [List.length_cons]
      unfold digs
      by_cases hc : c = 95
      · rw [if_pos hc, if_pos (by rw [hc]; rfl)]
        have := takeWhile_len (p := isDigit) r
        show 1 + (r.takeWhile isDigit).length ≤ _
        omega
      · rw [if_neg hc, if_neg (by intro z; exact hc (Option.some.inj z))]
        have := takeWhile_len (p := isDigit) (c :: r)
        rw [List.length_cons] at this
        omega
    have hpos : 0 < (digs (c :: r)).length := by
      unfold goodDig at g
      cases e : digs (c :: r) with
      | nil =>
        rw [e] at g
        cases g
      | cons _ _ => exact Nat.succ_pos _
    refine .num _ ((if c = 95 then 1 else 0) + (digs (c :: r)).length) ?_ (by omega) hle' (by rw [eT, er])
    rw [hT]
    unfold tokNum
    rw [hh, if_pos g, hi, hin, heldNum_is _ (digs_all _)]
    congr 1
    · unfold held heldZ
      by_cases hc : c = 95
      · rw [if_pos hc, if_pos hc]
        split <;> (try split) <;> (try split) <;> omega
      · rw [if_neg hc, if_neg hc]
        split <;> (try split) <;> omega
    · rw [Nat.add_assoc]
  · rw [if_neg g] at eT
    refine .none ?_ eT
    rw [hT]
    unfold tokNum
    rw [hh, if_neg g]
end N
namespace N
open Vaarrm (Told Token Toks tokensIn tokens extents values readTold here)
/-- kind and number of each token of a value that is told, in order -/
abbrev KN := Int × Int
def nums (s : List Int) : List KN := s.map fun n => (1, heldZ n)
mutual
def lin : Told → List KN
  | .num n => [(1, heldZ n)]
  | .arr s l => (91, 0) :: (nums s ++ (58, 0) :: (linL l ++ [(93, 0)]))
def linL : List Told → List KN
  | [] => []
  | x :: l => lin x ++ linL l
end
theorem linL_cons (x : Told) (l : List Told) : linL (x :: l) = lin x ++ linL l := rfl
theorem lin_arr (s : List Int) (l : List Told) : lin (.arr s l) = (91, 0) :: (nums s ++ (58, 0) :: (linL l ++ [(93, 0)])) := rfl
theorem linL_append : ∀ l m : List Told, linL (l ++ m) = linL l ++ linL m
  | [], m => by simp [linL]
  | x :: l, m => by
    show lin x ++ linL (l ++ m) = (lin x ++ linL l) ++ linL m
    rw [linL_append l m, List.append_assoc]
/-- .. of the arrays begun -/
def linO : List (List Int × List Told) → List KN
  | [] => []
  | (s, l) :: o => linO o ++ (91, 0) :: (nums s ++ (58, 0) :: linL l.reverse)
theorem linO_cons (s : List Int) (l : List Told) (o : List (List Int × List Told)) : linO ((s, l) :: o) = linO o ++ (91, 0) :: (nums s ++ (58, 0) :: linL l.reverse) := rfl
theorem linO_push (s : List Int) (l : List Told) (o : List (List Int × List Told)) (x : Told) : linO ((s, x :: l) :: o) = linO ((s, l) :: o) ++ lin x := by
  rw [linO_cons, linO_cons, List.reverse_cons, linL_append]
  simp [linL]
theorem linO_close (s : List Int) (l : List Told) (o : List (List Int × List Told)) : linO ((s, l) :: o) ++ [(93, 0)] = linO o ++ lin (.arr s l.reverse) := by
  rw [linO_cons, lin_arr]
  simp
def kn (k : Tk) : KN := (k.kind, k.num)
def Agree (res : List Tk × Int) : Except Nat Told → Prop
  | .error p => res.2 = (p : Int)
  | .ok x => res.2 = -1 ∧ res.1.map kn = lin x
/-- what is left behind the value -/
def finT (whole : Nat) (x : Told × Toks) : Except Nat Told := match x.2 with
  | (p, .none) :: _ => if p = whole then .ok x.1 else .error p
  | ts => .error (here ts)
def R2 (whole K : Nat) (o : List (List Int × List Told)) (ts : Toks) : Except Nat Told := match values K o ts with
  | .error e => .error e
  | .ok x => finT whole x
def R1 (whole K : Nat) (es : List Int) (o : List (List Int × List Told)) (ts : Toks) : Except Nat Told := match extents ts with
  | .error e => .error e
  | .ok x => R2 whole K ((es ++ x.1, []) :: o) x.2
theorem readTold_is (t : List Nat) : readTold t = R2 t.length (t.length + 2) [] (TS t.length t) := by
  unfold readTold R2 TS tokens
  cases values (t.length + 2) [] (tokensIn t.length (t.length + 1) t) with
  | error e => rfl
  | ok x => rfl
theorem nostart (l : List Nat) (h : ∀ c r, l.drop (runLen isBlank l) = c :: r → isBlank c = false → True) : True := trivial
theorem head_run {p : Nat → Bool} : ∀ l : List Nat, ∀ c r, l.drop (runLen p l) = c :: r → p c = false
  | [], c, r, h => by simp at h
  | a :: l, c, r, h => by
    unfold runLen at h
    by_cases ha : p a = true
    · rw [List.takeWhile_cons_of_pos ha, List.length_cons, List.drop_succ_cons] at h
      exact head_run l c r h
    · rw [List.takeWhile_cons_of_neg ha] at h
      have e : a = c := (List.cons.inj h).1
      rw [← e]
      exact Bool.eq_false_iff.mpr ha
theorem values_end (whole K : Nat) (o : List (List Int × List Told)) (p : Nat) (ts : Toks) : R2 whole (K + 1) o ((p, .none) :: ts) = .error p := rfl
theorem values_num0 (whole K : Nat) (p : Nat) (n : Int) (ts : Toks) : R2 whole (K + 1) [] ((p, .num n) :: ts) = finT whole (.num n, ts) := rfl
theorem values_num (whole K : Nat) (s : List Int) (l : List Told) (o : List (List Int × List Told)) (p : Nat) (n : Int) (ts : Toks) (h : ts ≠ []) : R2 whole (K + 1) ((s, l) :: o) ((p, .num n) :: ts) = R2 whole K ((s, .num n :: l) :: o) ts := by
  have e : ts.isEmpty = false := by
    cases ts with
    | nil => exact absurd rfl h
    | cons _ _ => rfl
  unfold R2
  conv => lhs; unfold values
  simp only [e]
  rfl
theorem values_open (whole K : Nat) (o : List (List Int × List Told)) (p : Nat) (ts : Toks) : R2 whole (K + 1) o ((p, .sign 91) :: ts) = R1 whole K [] o ts := by
  unfold R1 R2
  conv => lhs; unfold values
  simp only [if_pos]
  cases extents ts with
  | error e => rfl
  | ok x => simp
theorem values_close0 (whole K : Nat) (p : Nat) (ts : Toks) : R2 whole (K + 1) [] ((p, .sign 93) :: ts) = .error p := rfl
theorem values_close1 (whole K : Nat) (s : List Int) (l : List Told) (p : Nat) (ts : Toks) : R2 whole (K + 1) [(s, l)] ((p, .sign 93) :: ts) = finT whole (.arr s l.reverse, ts) := rfl
theorem values_close (whole K : Nat) (s u : List Int) (l m : List Told) (o : List (List Int × List Told)) (p : Nat) (ts : Toks) : R2 whole (K + 1) ((s, l) :: (u, m) :: o) ((p, .sign 93) :: ts) = R2 whole K ((u, .arr s l.reverse :: m) :: o) ts := rfl
theorem values_colon (whole K : Nat) (o : List (List Int × List Told)) (p : Nat) (ts : Toks) : R2 whole (K + 1) o ((p, .sign 58) :: ts) = .error p := rfl
theorem extents_num (whole K : Nat) (es : List Int) (o : List (List Int × List Told)) (p : Nat) (n : Int) (ts : Toks) (h : 0 ≤ n) : R1 whole K es o ((p, .num n) :: ts) = R1 whole K (es ++ [n]) o ts := by
  unfold R1
  conv => lhs; unfold extents
  rw [if_neg (by omega)]
  cases extents ts with
  | error e => rfl
  | ok x => simp
theorem extents_neg (whole K : Nat) (es : List Int) (o : List (List Int × List Told)) (p : Nat) (n : Int) (ts : Toks) (h : n < 0) : R1 whole K es o ((p, .num n) :: ts) = .error p := by
  unfold R1 extents
  rw [if_pos h]
theorem extents_colon (whole K : Nat) (es : List Int) (o : List (List Int × List Told)) (p : Nat) (ts : Toks) : R1 whole K es o ((p, .sign 58) :: ts) = R2 whole K ((es, []) :: o) ts := by
  unfold R1 extents
  simp
theorem extents_sign (whole K : Nat) (es : List Int) (o : List (List Int × List Told)) (p c : Nat) (ts : Toks) (h : c ≠ 58) : R1 whole K es o ((p, .sign c) :: ts) = .error p := by
  unfold R1 extents
  rw [if_neg h]
theorem extents_end (whole K : Nat) (es : List Int) (o : List (List Int × List Told)) (p : Nat) (ts : Toks) : R1 whole K es o ((p, .none) :: ts) = .error p := rfl
theorem TS_ne (whole : Nat) : ∀ (n : Nat) (l : List Nat), l.length ≤ n → TS whole l ≠ []
  | _, [], _ => by rw [TS_nil]; simp
  | 0, _ :: _, h => by simp at h
  | n + 1, c :: r, h => by
    rw [TS_cons]
    rw [List.length_cons] at h
    split
    · exact TS_ne whole n r (by omega)
    · split
      · simp
      · split <;> simp
theorem heldZ_nonneg (n : Int) : 0 ≤ heldZ n ↔ 0 ≤ n := by
  unfold heldZ
  split
  · omega
  · split <;> omega
/-- one turn of the scan -/
theorem scanF_end (m : Nat) (t : List Nat) (st lv : Int) (acc : List Tk) : scanF (m + 1) t t.length st lv acc = if st = 3 then (acc, -1) else (acc, (t.length : Int)) := by
  conv => lhs; unfold scanF
  rw [if_neg (Nat.lt_irrefl _)]
theorem scanF_turn (m : Nat) (t : List Nat) (k : Nat) (st lv : Int) (acc : List Tk) (h : k < t.length) : scanF (m + 1) t k st lv acc =
    if (adv st lv (tokOf (t.drop k) k)).1 = 4 then (acc, (k : Int)) else scanF m t ((tokOf (t.drop k) k).stop.toNat + runLen isBlank (t.drop (tokOf (t.drop k) k).stop.toNat)) (adv st lv (tokOf (t.drop k) k)).1 (adv st lv (tokOf (t.drop k) k)).2 (acc ++ [tokOf (t.drop k) k]) := by
  conv => lhs; unfold scanF
  rw [if_pos h]
structure ScanOk (t : List Nat) (m : Nat) : Prop where
  start : ∀ (k K : Nat), k ≤ t.length → (∀ c r, t.drop k = c :: r → isBlank c = false) → t.length + 1 ≤ k + m → t.length + 1 ≤ k + K → Agree (scanF m t k 0 0 []) (R2 t.length K [] (TS t.length (t.drop k)))
  members : ∀ (k K : Nat) (s : List Int) (l : List Told) (o : List (List Int × List Told)) (acc : List Tk), k ≤ t.length → (∀ c r, t.drop k = c :: r → isBlank c = false) → t.length + 1 ≤ k + m → t.length + 1 ≤ k + K → acc.map kn = linO ((s, l) :: o) →
    Agree (scanF m t k 2 ((o.length : Int) + 1) acc) (R2 t.length K ((s, l) :: o) (TS t.length (t.drop k)))
  exts : ∀ (k K : Nat) (es : List Int) (o : List (List Int × List Told)) (acc : List Tk), k ≤ t.length → (∀ c r, t.drop k = c :: r → isBlank c = false) → t.length + 1 ≤ k + m → t.length + 1 ≤ k + K → acc.map kn = linO o ++ (91, 0) :: nums es →
    Agree (scanF m t k 1 ((o.length : Int) + 1) acc) (R1 t.length K es o (TS t.length (t.drop k)))
  done : ∀ (k : Nat) (x : Told) (lv : Int) (acc : List Tk), k ≤ t.length → (∀ c r, t.drop k = c :: r → isBlank c = false) → t.length + 1 ≤ k + m → acc.map kn = lin x → Agree (scanF m t k 3 lv acc) (finT t.length (x, TS t.length (t.drop k)))
theorem scan_ok (t : List Nat) : ∀ m : Nat, ScanOk t m
  | 0 => ⟨fun k K h1 _ h2 _ => by omega, fun k K s l o acc h1 _ h2 _ _ => by omega, fun k K es o acc h1 _ h2 _ _ => by omega, fun k x lv acc h1 _ h2 _ => by omega⟩
  | m + 1 => by
    have ih := scan_ok t m
    -- the place behind a token
    have nx : ∀ (j : Nat), j ≤ t.length → j + runLen isBlank (t.drop j) ≤ t.length ∧ (∀ c r, t.drop (j + runLen isBlank (t.drop j)) = c :: r → isBlank c = false) ∧ TS t.length (t.drop (j + runLen isBlank (t.drop j))) = TS t.length (t.drop j) := fun j hj => by
      have h1 := runLen_le isBlank (t.drop j)
      rw [List.length_drop] at h1
      refine ⟨by omega, fun c r e => ?_, ?_⟩
      · rw [← List.drop_drop] at e
        exact head_run _ c r e
      · rw [← List.drop_drop]
        exact (TS_blanks _ _).symm
    have cases_at : ∀ k : Nat, k ≤ t.length → (∀ c r, t.drop k = c :: r → isBlank c = false) → k = t.length ∨ (k < t.length ∧ TokIs t.length (t.drop k) k) := fun k hk hb => by
      by_cases h : k < t.length
      · refine .inr ⟨h, ?_⟩
        have hdr : t.drop k = t[k] :: t.drop (k + 1) := List.drop_eq_getElem_cons h
        have hl : (t.drop (k + 1)).length + 1 = t.length - k := by rw [List.length_drop]; omega
        have := tok_is t.length t[k] (t.drop (k + 1)) (hb _ _ hdr) (by omega)
        rw [hl, ← hdr, show t.length - (t.length - k) = k by omega] at this
        exact this
      · exact .inl (by omega)
    have atend : TS t.length (t.drop t.length) = [(t.length, .none)] := by rw [List.drop_length]; rfl
    have flt : ∀ (k : Nat) (st lv : Int) (acc : List Tk), k < t.length → (adv st lv (tokOf (t.drop k) k)).1 = 4 → scanF (m + 1) t k st lv acc = (acc, (k : Int)) := fun k st lv acc h e => by rw [scanF_turn _ _ _ _ _ _ h, if_pos e]
    have go : ∀ (k : Nat) (st lv st' lv' : Int) (acc : List Tk) (j : Nat), k < t.length → adv st lv (tokOf (t.drop k) k) = (st', lv') → st' ≠ 4 → (tokOf (t.drop k) k).stop = (j : Int) → scanF (m + 1) t k st lv acc = scanF m t (j + runLen isBlank (t.drop j)) st' lv' (acc ++ [tokOf (t.drop k) k]) := fun k st lv st' lv' acc j h e h4 hj => by
      rw [scanF_turn _ _ _ _ _ _ h, e, if_neg h4, hj]
      rfl
    refine ⟨fun k K hk hb hm hK => ?_, fun k K s l o acc hk hb hm hK ha => ?_, fun k K es o acc hk hb hm hK ha => ?_, fun k x lv acc hk hb hm ha => ?_⟩
    · -- START
      obtain ⟨K, rfl⟩ : ∃ K', K = K' + 1 := ⟨K - 1, by omega⟩
      rcases cases_at k hk hb with rfl | ⟨hlt, T⟩
      · rw [atend, scanF_end, values_end]
        rfl
      cases T with
      | none h e =>
        rw [e, values_end, flt k 0 0 [] hlt (by rw [h]; exact adv_zero _ _ _ rfl)]
        rfl
      | num n s h hs hl e =>
        rw [List.length_drop] at hl
        obtain ⟨n1, n2, n3⟩ := nx (k + s) (by omega)
        rw [e, values_num0, go k 0 0 3 0 [] (k + s) hlt (by rw [h]; rfl) (by decide) (by rw [h]), List.drop_drop, ← n3]
        refine ih.done _ (.num n) 0 _ n1 n2 (by omega) ?_
        rw [h]
        unfold lin
        rfl
      | sign c hc h e =>
        obtain ⟨n1, n2, n3⟩ := nx (k + 1) (by omega)
        rcases hc with rfl | rfl | rfl
        · rw [e, values_open, go k 0 0 1 1 [] (k + 1) hlt (by rw [h]; rfl) (by decide) (by rw [h]), List.drop_drop, ← n3]
          refine ih.exts _ K [] [] _ n1 n2 (by omega) (by omega) ?_
          rw [h]
          rfl
        · rw [e, values_colon, flt k 0 0 [] hlt (by rw [h]; rfl)]
          rfl
        · rw [e, values_close0, flt k 0 0 [] hlt (by rw [h]; rfl)]
          rfl
    · -- MEMBERS
      obtain ⟨K, rfl⟩ : ∃ K', K = K' + 1 := ⟨K - 1, by omega⟩
      rcases cases_at k hk hb with rfl | ⟨hlt, T⟩
      · rw [atend, scanF_end, values_end]
        rfl
      cases T with
      | none h e =>
        rw [e, values_end, flt k 2 _ acc hlt (by rw [h]; exact adv_zero _ _ _ rfl)]
        rfl
      | num n s' h hs hl e =>
        rw [List.length_drop] at hl
        obtain ⟨n1, n2, n3⟩ := nx (k + s') (by omega)
        rw [e, values_num _ _ _ _ _ _ _ _ (TS_ne _ _ _ (Nat.le_refl _)), go k 2 _ 2 ((o.length : Int) + 1) acc (k + s') hlt (by rw [h]; rfl) (by decide) (by rw [h]), List.drop_drop, ← n3]
        refine ih.members _ K s (.num n :: l) o _ n1 n2 (by omega) (by omega) ?_
        rw [List.map_append, ha, linO_push, h]
        unfold lin
        rfl
      | sign c hc h e =>
        obtain ⟨n1, n2, n3⟩ := nx (k + 1) (by omega)
        rcases hc with rfl | rfl | rfl
        · rw [e, values_open, go k 2 _ 1 ((o.length : Int) + 1 + 1) acc (k + 1) hlt (by rw [h]; rfl) (by decide) (by rw [h]), List.drop_drop, ← n3]
          refine ih.exts _ K [] ((s, l) :: o) _ n1 n2 (by omega) (by omega) ?_
          rw [List.map_append, ha, h]
          rfl
        · rw [e, values_colon, flt k 2 _ acc hlt (by rw [h]; rfl)]
          rfl
        · cases o with
          | nil =>
            rw [e, values_close1, go k 2 _ 3 0 acc (k + 1) hlt (by rw [h]; rfl) (by decide) (by rw [h]), List.drop_drop, ← n3]
            refine ih.done _ (.arr s l.reverse) 0 _ n1 n2 (by omega) ?_
            rw [List.map_append, ha, h]
            exact linO_close s l []
          | cons q o =>
            obtain ⟨u, mm⟩ := q
            have ea : adv 2 ((((u, mm) :: o).length : Int) + 1) ⟨((93 : Nat) : Int), 0, ((k + 1 : Nat) : Int)⟩ = (2, (o.length : Int) + 1) := by
              show (afterCl ((((o.length + 1 : Nat) : Int) + 1) - 1), ((((o.length + 1 : Nat) : Int) + 1) - 1)) = _
              have e1 : ((((o.length + 1 : Nat) : Int) + 1) - 1) = (o.length : Int) + 1 := by omega
              rw [e1]
              unfold afterCl
              rw [if_neg (by omega)]
            rw [e, values_close, go k 2 _ 2 ((o.length : Int) + 1) acc (k + 1) hlt (by rw [h]; exact ea) (by decide) (by rw [h]), List.drop_drop, ← n3]
            refine ih.members _ K u (.arr s l.reverse :: mm) o _ n1 n2 (by omega) (by omega) ?_
            rw [List.map_append, ha, h, linO_push]
            exact linO_close s l ((u, mm) :: o)
    · -- EXTENTS
      rcases cases_at k hk hb with rfl | ⟨hlt, T⟩
      · rw [atend, scanF_end, extents_end]
        rfl
      cases T with
      | none h e =>
        rw [e, extents_end, flt k 1 _ acc hlt (by rw [h]; exact adv_zero _ _ _ rfl)]
        rfl
      | num n s' h hs hl e =>
        rw [List.length_drop] at hl
        obtain ⟨n1, n2, n3⟩ := nx (k + s') (by omega)
        by_cases hn : 0 ≤ n
        · have ea : adv 1 ((o.length : Int) + 1) ⟨1, heldZ n, ((k + s' : Nat) : Int)⟩ = (1, (o.length : Int) + 1) := by
            show (afterNum 1 (heldZ n), _) = _
            unfold afterNum
            rw [if_neg (by decide), if_neg (by decide), if_pos ⟨rfl, (heldZ_nonneg n).mpr hn⟩]
          rw [e, extents_num _ _ _ _ _ _ _ hn, go k 1 _ 1 ((o.length : Int) + 1) acc (k + s') hlt (by rw [h]; exact ea) (by decide) (by rw [h]), List.drop_drop, ← n3]
          refine ih.exts _ K (es ++ [n]) o _ n1 n2 (by omega) (by omega) ?_
          rw [List.map_append, ha, h]
          unfold nums
          simp [kn]
        · have ea : (adv 1 ((o.length : Int) + 1) ⟨1, heldZ n, ((k + s' : Nat) : Int)⟩).1 = 4 := by
            show afterNum 1 (heldZ n) = _
            unfold afterNum
            rw [if_neg (by decide), if_neg (by decide), if_neg (fun z => hn ((heldZ_nonneg n).mp z.2))]
          rw [e, extents_neg _ _ _ _ _ _ _ (by omega), flt k 1 _ acc hlt (by rw [h]; exact ea)]
          rfl
      | sign c hc h e =>
        obtain ⟨n1, n2, n3⟩ := nx (k + 1) (by omega)
        rcases hc with rfl | rfl | rfl
        · rw [e, extents_sign _ _ _ _ _ _ _ (by decide), flt k 1 _ acc hlt (by rw [h]; rfl)]
          rfl
        · rw [e, extents_colon, go k 1 _ 2 ((o.length : Int) + 1) acc (k + 1) hlt (by rw [h]; rfl) (by decide) (by rw [h]), List.drop_drop, ← n3]
          refine ih.members _ K es [] o _ n1 n2 (by omega) (by omega) ?_
          rw [List.map_append, ha, h]
          rw [linO_cons]
          simp [linL, kn]
        · rw [e, extents_sign _ _ _ _ _ _ _ (by decide), flt k 1 _ acc hlt (by rw [h]; rfl)]
          rfl
    · -- DONE
      rcases cases_at k hk hb with rfl | ⟨hlt, T⟩
      · rw [atend, scanF_end, if_pos rfl]
        unfold finT
        simp only [if_true]
        exact ⟨rfl, ha⟩
      cases T with
      | none h e =>
        rw [e, flt k 3 _ acc hlt (by rw [h]; exact adv_zero _ _ _ rfl)]
        unfold finT
        simp only [if_neg (Nat.ne_of_lt hlt)]
        rfl
      | num n s' h hs hl e =>
        rw [e, flt k 3 _ acc hlt (by rw [h]; rfl)]
        rfl
      | sign c hc h e =>
        rcases hc with rfl | rfl | rfl <;> (rw [e, flt k 3 _ acc hlt (by rw [h]; rfl)]; rfl)
theorem scan_read (t : List Nat) : Agree (scanAll t) (readTold t) := by
  rw [readTold_is]
  unfold scanAll
  have h1 := runLen_le isBlank t
  rw [TS_blanks]
  exact (scan_ok t (t.length + 1)).start _ _ h1 (fun c r e => head_run t c r e) (by omega) (by omega)
end N
namespace N
open PySem L2
def spLookLong (K : PySem.W.Frag) (C : Addr) : Sp := fun vs H Q E => ∃ (a : Addr) (t : List Nat), vs = [.ref a] ∧ SqL K H a (Bs t) ∧ (8192 < t.length → Fails C E H (-1)) ∧ (t.length ≤ 8192 → Q .non H)
section
variable {P : Program} {w : World} {K : PySem.W.Frag} {mg : Str → Option Value} {base : Heap} {CRef fRef : Addr}
theorem sc_look_long : FnScope ["text"] ["text"] (defScope sLookLong) := ⟨rfl, rfl, rfl, by decide +kernel, rfl, by decide +kernel, by decide +kernel⟩
theorem ok_look_long (T : Top1 K mg "look_long" sLookLong ["text"]) (c_MOST_BYTES : CI mg "MOST_BYTES" 8192) (c_LONG : CI mg "LONG" (-1)) (b_len : mg "len" = none) (R : PySem.RefX.RefTxt K mg CRef fRef) : Def P w K mg base (L2.CX P w) "look_long" 2 ["text"] (spLookLong K CRef) := by
  refine T.okX sc_look_long (fun vs H Q E h => ?_) (fun f cdv A outer s H vs Q E hr h => ?_)
  · obtain ⟨a, t, rfl, _⟩ := h
    rfl
  obtain ⟨a, t, rfl, hS, kL, kS⟩ := h
  refine ⟨_, (pss_one (ps_if (pt_cmpR op_gt (pe_callB call_len_seq (by rfl) b_len (by decide +kernel) (pa_cons (pv 0) pa_nil)) (pe_ci c_MOST_BYTES) (nomark _)) (pss_one (ps_raiseRef rfl R hr (takes_of rfl rfl rfl rfl) (pa_cons (pe_ci c_LONG) pa_nil))) pss_nil)), ?_⟩
  refine ⟨_, rfl, a, _, rfl, .inl hS, _, _, rfl, rfl, _, rfl, ?_⟩
  rw [Bs_len]
  by_cases c : 8192 < t.length
  · exact itT (by omega) ⟨_, rfl, fun d hd => kL c d _ (same_new hd _) upd_same⟩
  · exact itF (by omega) (kS (by omega))
end
end N
namespace N
open PySem L2
/-- what where answers -/
def whereOf (t : List Nat) : Int := if 8192 < t.length then -1 else (scanAll t).2 + 1
def spWhere (K : PySem.W.Frag) : Sp := fun vs H Q _ => ∃ (a : Addr) (t : List Nat), vs = [.ref a] ∧ SqL K H a (Bs t) ∧ t.length ≤ 20000 ∧ ∀ (H' : Hp) (p : Addr), H' p = some (.lst [.int (whereOf t)]) → Q (.ref p) H'
section
variable {P : Program} {w : World} {K : PySem.W.Frag} {mg : Str → Option Value} {base : Heap} {CTok CRef fRef : Addr}
theorem sc_where : FnScope ["v", "e", "tokens", "fault"] ["v"] (defScope sWhere) := ⟨rfl, rfl, rfl, by decide +kernel, rfl, by decide +kernel, by decide +kernel⟩
theorem ok_where (T : Top1 K mg "where" sWhere ["v"]) (R : PySem.RefX.RefTxt K mg CRef fRef) (D_scan : Def P w K mg base CX0 "scan" 5 ["text"] (spScan K CTok)) (D_look_long : Def P w K mg base (L2.CX P w) "look_long" 2 ["text"] (spLookLong K CRef)) : Def P w K mg base CX0 "where" 6 ["v"] (spWhere K) := by
  refine T.ok sc_where (fun vs H Q E h => ?_) (fun f cdv A outer s H vs Q E hr h => ?_)
  · obtain ⟨a, t, rfl, _⟩ := h
    rfl
  obtain ⟨a, t, rfl, hS, hz, q⟩ := h
  refine ⟨_, (pss_cons (ps_try_as (i := 1) (Wout := fun _ _ _ _ => False) rfl rfl sc_where.nd rfl rfl ⟨rfl, by decide, Or.inl R.gC⟩ takes0 (fun W pn xe tk _ => (pss_one (ps_expr (pe_fnS D_look_long (hr.mono (by decide)) tk (pa_cons (pv 0) pa_nil))))) (fun a oe cls d pn hz hf => (pss_one (ps_ret (pe_lst (pa_cons (pe_numRef R hz hf (pv 1)) pa_nil)))))) (pss_cons (ps_asg (pe_fn D_scan (hr.mono (by decide)) pass0 (pa_cons (pv 0) pa_nil)) (pg_tup rfl (pgs_cons (pg_name (i := 2) sc_where.nd rfl (Or.inl rfl)) (pgs_cons (pg_name (i := 3) sc_where.nd rfl (Or.inl rfl)) pgs_nil)))) (pss_one (ps_ret (pe_lst (pa_cons (pe_op op_add (pv 3) pe_int) pa_nil)))))), ?_⟩
  refine ⟨_, rfl, a, t, rfl, hS, fun hL d H' s1 hd => ⟨true, R.te, fun _ x _ => ?_, fun z => Bool.noConfusion z⟩, fun hL => ?_⟩
  · refine ⟨_, rfl, rfl, rfl, d, _, rfl, hd, by show 1 ≤ sizeLine; decide, fun p hp => q _ p ?_⟩
    unfold whereOf
    rw [if_pos hL]
    exact upd_same
  · refine ⟨_, rfl, a, t, rfl, hS, by omega, fun p l us H' s1 hp hl hT => ?_⟩
    refine ⟨p, _, rfl, SqT.of hp, rfl, _, _, rfl, _, _, rfl, rfl, _, rfl, _, _, rfl, rfl, by show 1 ≤ sizeLine; decide, fun r hr' => q _ r ?_⟩
    unfold whereOf
    rw [if_neg (by omega)]
    exact upd_same
end
end N
namespace N
theorem where_is {t : List Nat} (h : ∀ c ∈ t, c ≤ 255) : PyVaarrm.where_ (t.map fun (n : Nat) => (n : Int)) = [whereOf t] := by
  have e : VaarrmNeutral.callOf [[0], t.map fun (n : Nat) => (n : Int)] = some (.where_ t) := by
    show (VaarrmNeutral.text (t.map fun (n : Nat) => (n : Int))).map Vaarrm.Call.where_ = _
    rw [text_ok h]
    rfl
  unfold PyVaarrm.where_ VaarrmNeutral.step
  rw [e]
  show VaarrmNeutral.encode (if 8192 < t.length then Vaarrm.no Vaarrm.LONG else match Vaarrm.readTold t with
    | .ok _ => { value := 0 }
    | .error p => { value := ((p + 1 : Nat) : Int) }) = _
  have a := scan_read t
  unfold whereOf
  by_cases c : 8192 < t.length
  · rw [if_pos c, if_pos c]
    rfl
  · rw [if_neg c, if_neg c]
    cases hr : Vaarrm.readTold t with
    | error p =>
      rw [hr] at a
      have a : (scanAll t).2 = (p : Int) := a
      rw [a]
      rfl
    | ok x =>
      rw [hr] at a
      have a : (scanAll t).2 = -1 := a.1
      rw [a]
      rfl
end N
open PySem PySem.W PyProof.Rows
set_option maxRecDepth 100000 in
set_option maxHeartbeats 8000000 in
theorem PySem.Challenge.cw_nestarray_s01_where_holds : PySem.Challenge.rw_nestarray_s01_where.Holds := by
  w_on; k_headS; (case hw => exact ⟨[.list []], by decide +kernel, by decide +kernel⟩)
  k_fillS
  refine L2.walk_specK (r := PySem.Challenge.rw_nestarray_s01_where) (k := 6) (CX := L2.CX0) (ps := ["v"]) (sp := N.spWhere) (by decide +kernel) rfl rfl ⟨rfl, by decide, by decide⟩ (fun w h Y => PySem.W.kIn_of Y) ?F ?S (fun _ _ _ _ z => z)
  case F =>
    intro w mg fa h Y KX G hmg
    obtain ⟨CRef, fRef, R⟩ : ∃ C f, N.RefTxtAt KX mg C f := by
      refine' ⟨_, _, N.refTxt KX G (p1 := ⟨5, 17, 5, 21⟩) (p2 := ⟨5, 23, 5, 29⟩) (q1 := ⟨6, 8, 6, 12⟩) (q2 := ⟨6, 8, 6, 19⟩) (q3 := ⟨6, 22, 6, 28⟩) (q4 := ⟨6, 8, 6, 28⟩) ?aC ?xL ?sa ?ga ?gg ?nb ?a1 ?t1 ?l1 ?c1 ?kC ?eC ?tC ?hC ?iC ?sC⟩
      (case aC => k_is); (case xL => k_is); (case sa => k_is); (case ga => k_is); (case gg => k_is); (case nb => k_is); (case a1 => k_is); (case t1 => k_is); (case l1 => k_is); (case c1 => k_is); (case kC => k_is); (case eC => k_is); (case tC => k_is); (case hC => k_is); (case iC => k_is); (case sC => first | rfl | k_is)
    obtain ⟨CTok, T_Token, F_Token⟩ : ∃ C, N.TopCAt KX mg "Token" "Token.__init__" N.sTokenInit ["self", "kind", "number", "stop"] C ∧ N.ClFAt KX C ["kind", "number", "stop"] := by
      refine' ⟨_, N.topC KX G ?aC ?pg ?hd ?po ?sa ?mk ?kc ?a ?i ?l ?c ?k (fun _ _ _ _ _ _ us hl => match us, hl with | [_, _, _, _], _ => rfl), (N.clf_cons ?n_kind (N.clf_cons ?n_number (N.clf_cons ?n_stop (N.clf_nil ⟨?pg, ?hd, ?po, ?sa⟩))))⟩
      (case aC => k_is); (case pg => k_is); (case hd => k_is); (case po => k_is); (case sa => k_is); (case mk => k_is); (case kc => k_is); (case a => k_is); (case i => k_is); (case l => k_is); (case c => k_is); (case k => k_is); (case n_kind => k_is); (case n_number => k_is); (case n_stop => k_is)
    have T_skip_blanks : N.Top1At KX mg "skip_blanks" N.sSkipBlanks ["text", "at"] := by
      refine' N.top1 KX G ?a ?l ?c ?k (fun _ _ _ _ _ _ us hl => match us, hl with | [_, _], _ => rfl)
      (case a => k_is); (case l => k_is); (case c => k_is); (case k => k_is)
    have T_digits_end : N.Top1At KX mg "digits_end" N.sDigitsEnd ["text", "at"] := by
      refine' N.top1 KX G ?a ?l ?c ?k (fun _ _ _ _ _ _ us hl => match us, hl with | [_, _], _ => rfl)
      (case a => k_is); (case l => k_is); (case c => k_is); (case k => k_is)
    have T_digits_number : N.Top1At KX mg "digits_number" N.sDigitsNumber ["text", "first", "stop"] := by
      refine' N.top1 KX G ?a ?l ?c ?k (fun _ _ _ _ _ _ us hl => match us, hl with | [_, _, _], _ => rfl)
      (case a => k_is); (case l => k_is); (case c => k_is); (case k => k_is)
    have T_good_digits : N.Top1At KX mg "good_digits" N.sGoodDigits ["text", "first", "stop", "below"] := by
      refine' N.top1 KX G ?a ?l ?c ?k (fun _ _ _ _ _ _ us hl => match us, hl with | [_, _, _, _], _ => rfl)
      (case a => k_is); (case l => k_is); (case c => k_is); (case k => k_is)
    have T_read_number : N.Top1At KX mg "read_number" N.sReadNumber ["text", "at"] := by
      refine' N.top1 KX G ?a ?l ?c ?k (fun _ _ _ _ _ _ us hl => match us, hl with | [_, _], _ => rfl)
      (case a => k_is); (case l => k_is); (case c => k_is); (case k => k_is)
    have T_read_token : N.Top1At KX mg "read_token" N.sReadToken ["text", "at"] := by
      refine' N.top1 KX G ?a ?l ?c ?k (fun _ _ _ _ _ _ us hl => match us, hl with | [_, _], _ => rfl)
      (case a => k_is); (case l => k_is); (case c => k_is); (case k => k_is)
    have T_state_after_number : N.Top1At KX mg "state_after_number" N.sStateAfterNumber ["state", "number"] := by
      refine' N.top1 KX G ?a ?l ?c ?k (fun _ _ _ _ _ _ us hl => match us, hl with | [_, _], _ => rfl)
      (case a => k_is); (case l => k_is); (case c => k_is); (case k => k_is)
    have T_state_after_closing : N.Top1At KX mg "state_after_closing" N.sStateAfterClosing ["level"] := by
      refine' N.top1 KX G ?a ?l ?c ?k (fun _ _ _ _ _ _ us hl => match us, hl with | [_], _ => rfl)
      (case a => k_is); (case l => k_is); (case c => k_is); (case k => k_is)
    have T_advance : N.Top1At KX mg "advance" N.sAdvance ["state", "level", "token"] := by
      refine' N.top1 KX G ?a ?l ?c ?k (fun _ _ _ _ _ _ us hl => match us, hl with | [_, _, _], _ => rfl)
      (case a => k_is); (case l => k_is); (case c => k_is); (case k => k_is)
    have T_scan : N.Top1At KX mg "scan" N.sScan ["text"] := by
      refine' N.top1 KX G ?a ?l ?c ?k (fun _ _ _ _ _ _ us hl => match us, hl with | [_], _ => rfl)
      (case a => k_is); (case l => k_is); (case c => k_is); (case k => k_is)
    have T_look_long : N.Top1At KX mg "look_long" N.sLookLong ["text"] := by
      refine' N.top1 KX G ?a ?l ?c ?k (fun _ _ _ _ _ _ us hl => match us, hl with | [_], _ => rfl)
      (case a => k_is); (case l => k_is); (case c => k_is); (case k => k_is)
    have T_where : N.Top1At KX mg "where" N.sWhere ["v"] := by
      refine' N.top1 KX G ?a ?l ?c ?k (fun _ _ _ _ _ _ us hl => match us, hl with | [_], _ => rfl)
      (case a => k_is); (case l => k_is); (case c => k_is); (case k => k_is)
    have c_LONG : N.CI mg "LONG" (-1) := by
      refine' N.ci KX G ?a
      (case a => k_is)
    have c_GREATEST : N.CI mg "GREATEST" 1000000000000000000 := by
      refine' N.ci KX G ?a
      (case a => k_is)
    have c_BLANKS : N.CTAt KX mg "BLANKS" [32, 9, 10, 13] := by
      refine' N.ct4 KX G ?e ?l
      (case e => k_is); (case l => k_is)
    have c_OPENING : N.CI mg "OPENING" 91 := by
      refine' N.ci KX G ?a
      (case a => k_is)
    have c_COLON : N.CI mg "COLON" 58 := by
      refine' N.ci KX G ?a
      (case a => k_is)
    have c_CLOSING : N.CI mg "CLOSING" 93 := by
      refine' N.ci KX G ?a
      (case a => k_is)
    have c_SIGNS : N.CTAt KX mg "SIGNS" [91, 58, 93] := by
      refine' N.ct3 KX G ?e ?l
      (case e => k_is); (case l => k_is)
    have c_LOW : N.CI mg "LOW" 95 := by
      refine' N.ci KX G ?a
      (case a => k_is)
    have c_ZERO : N.CI mg "ZERO" 48 := by
      refine' N.ci KX G ?a
      (case a => k_is)
    have c_NINE : N.CI mg "NINE" 57 := by
      refine' N.ci KX G ?a
      (case a => k_is)
    have c_NOTHING : N.CI mg "NOTHING" 0 := by
      refine' N.ci KX G ?a
      (case a => k_is)
    have c_NUMBER : N.CI mg "NUMBER" 1 := by
      refine' N.ci KX G ?a
      (case a => k_is)
    have c_BEYOND : N.CI mg "BEYOND" 1000000000000000001 := by
      refine' N.ci KX G ?a
      (case a => k_is)
    have c_START : N.CI mg "START" 0 := by
      refine' N.ci KX G ?a
      (case a => k_is)
    have c_EXTENTS : N.CI mg "EXTENTS" 1 := by
      refine' N.ci KX G ?a
      (case a => k_is)
    have c_MEMBERS : N.CI mg "MEMBERS" 2 := by
      refine' N.ci KX G ?a
      (case a => k_is)
    have c_DONE : N.CI mg "DONE" 3 := by
      refine' N.ci KX G ?a
      (case a => k_is)
    have c_FAULT : N.CI mg "FAULT" 4 := by
      refine' N.ci KX G ?a
      (case a => k_is)
    have c_MOST_BYTES : N.CI mg "MOST_BYTES" 8192 := by
      refine' N.ci KX G ?a
      (case a => k_is)
    have b_len : mg "len" = none := by
      refine' PySem.W.mg_none_of KX G ?a
      (case a => k_is)
    have b_min : mg "min" = none := by
      refine' PySem.W.mg_none_of KX G ?a
      (case a => k_is)
    have b_range : mg "range" = none := by
      refine' PySem.W.mg_none_of KX G ?a
      (case a => k_is)
    exact N.top_end T_where hmg fun base _ _ => by
      have D_Token := N.ok_TokenInit (P := PySem.Challenge.pw_nestarray_s01_where) (w := w) (base := base) T_Token F_Token
      have D_skip_blanks := N.ok_skip_blanks (P := PySem.Challenge.pw_nestarray_s01_where) (w := w) (base := base) T_skip_blanks c_BLANKS b_len b_range
      have D_digits_end := N.ok_digits_end (P := PySem.Challenge.pw_nestarray_s01_where) (w := w) (base := base) T_digits_end c_NINE c_ZERO b_len b_range
      have D_digits_number := N.ok_digits_number (P := PySem.Challenge.pw_nestarray_s01_where) (w := w) (base := base) T_digits_number c_ZERO c_BEYOND b_min b_range
      have D_good_digits := N.ok_good_digits (P := PySem.Challenge.pw_nestarray_s01_where) (w := w) (base := base) T_good_digits c_ZERO
      have D_read_number := N.ok_read_number (P := PySem.Challenge.pw_nestarray_s01_where) (w := w) (base := base) T_read_number c_NUMBER c_NOTHING c_LOW D_Token D_digits_number D_good_digits D_digits_end
      have D_read_token := N.ok_read_token (P := PySem.Challenge.pw_nestarray_s01_where) (w := w) (base := base) T_read_token c_SIGNS D_Token D_read_number
      have D_state_after_number := N.ok_state_after_number (P := PySem.Challenge.pw_nestarray_s01_where) (w := w) (base := base) T_state_after_number c_FAULT c_EXTENTS c_MEMBERS c_START c_DONE
      have D_state_after_closing := N.ok_state_after_closing (P := PySem.Challenge.pw_nestarray_s01_where) (w := w) (base := base) T_state_after_closing c_MEMBERS c_DONE
      have D_advance := N.ok_advance (P := PySem.Challenge.pw_nestarray_s01_where) (w := w) (base := base) T_advance c_FAULT c_MEMBERS c_CLOSING c_EXTENTS c_COLON c_START c_OPENING c_NUMBER F_Token D_state_after_closing D_state_after_number
      have D_scan := N.ok_scan (P := PySem.Challenge.pw_nestarray_s01_where) (w := w) (base := base) T_scan c_DONE c_FAULT c_START b_len F_Token D_skip_blanks D_advance D_read_token
      have D_look_long := N.ok_look_long (P := PySem.Challenge.pw_nestarray_s01_where) (w := w) (base := base) T_look_long c_MOST_BYTES c_LONG b_len R
      have D_where := N.ok_where (P := PySem.Challenge.pw_nestarray_s01_where) (w := w) (base := base) T_where R D_scan D_look_long
      exact D_where
  case S =>
    intro K H xs a hO hwi hask hx
    cases hx with
    | cons h1 h2 =>
      cases h2
      cases h1 with
      | lst hs ha =>
        have e := L2.ints_dw a.1 _ ha
        subst e
        obtain ⟨t, e, ht, hb⟩ := N.arg_bytes (Bool.and_eq_true_iff.mp hwi).1
        obtain ⟨ns, u⟩ := a
        have e : ns = t.map fun (n : Nat) => (n : Int) := e
        subst e
        refine ⟨_, t, rfl, (by rw [← N.Bs_map]; exact hs), ht, fun H' p hp => ?_⟩
        have e2 := N.where_is hb
        show L2.Dw K H' (.ref p) (.list ((PyVaarrm.where_ (t.map fun (n : Nat) => (n : Int))).map WData.int))
        rw [e2]
        exact .lst (L2.SqL.of hp) (L2.dw_ints [_])
#print axioms PySem.Challenge.cw_nestarray_s01_where_holds
