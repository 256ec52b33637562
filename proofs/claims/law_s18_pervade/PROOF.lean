import PyProof.Rows.All
import Wide.All
import OpenK.AllK
import Wide.FinOn
import PyProof.EqAt
import PyProof.EqKinds
import PyProof.TupleCall
import Open.SpecLaws
import KE.OsGo
import PySem.Challenge.RW_nestarray_s18_pervade
import HandS.ForSpec
import HandS.ExcSuper
import HandS.Iter
import HandS.IsInst
import HandS.Comp
import HandS.Flow
import HandS.Zip
import HandS.Rev
import HandS.Walk
import HandS.More
import KE.KDictZip
import HandS.ListItems
set_option Elab.async false
set_option linter.all false
set_option autoImplicit false
set_option maxRecDepth 100000
set_option maxHeartbeats 4000000
/-! ### The program's own error, Refusal(Exception) with one field: skel/42_own_error_by_import turned to it (the store by ESX.osa_new) -/
namespace PySem
namespace RefX
open PySem.W PySem.Calls PyProof.Rows PySem.HandSPX
/-! ### the text of __init__ -/
def iA (p1 p2 : Pos) : Arguments := { posonlyargs := [], args := [{ arg := "self", annotation := none, pos := p1 }, { arg := "number", annotation := none, pos := p2 }], vararg := none, kwonlyargs := [], kw_defaults := [], kwarg := none, defaults := [] }
def iB (q1 q2 q3 q4 : Pos) : List Stmt := [.Assign [.Attribute (.Name "self" q1) "number" q2] (.Name "number" q3) q4]
def iS : Scope := { kind := .function, names := [(PySem.Str.ofString "self", .local), (PySem.Str.ofString "number", .local)], isGenerator := false, isCoroutine := false, more := [] }
/-- what the written part says of Refusal, at C, and of its own __init__, at fI -/
structure RefTxt (K : Frag) (mg : Str → Option Value) (C fI : Addr) : Prop where
  gC : mg "Refusal" = some (.ref C)
  cls : ∃ nm q N bs sn sub ab col dd k0 k1 k2 k3 k5, K.lookup C = some (excClassObj nm q C N bs PySem.ESX.exTail true sn sub ab col dd k0 k1 k2 k3 k5 "Exception.__new__")
  sa : findIn K (.ref C) "__setattr__" = some (some (.builtin "object.__setattr__"))
  ga : findIn K (.ref C) "__getattribute__" = some (some (.builtin "BaseException.__getattribute__"))
  gg : findIn K (.ref C) "__getattr__" = some none
  noN : findIn K (.ref C) "number" = some none
  iC : findIn K (.ref C) "__init__" = some (some (.ref fI))
  tC : typeIn K (.ref fI) = some (.type "function")
  kC : keepIn K (.ref C) = true
  exC : subIn K (.ref C) (.type "BaseException") = some true
  tyC : typeIn K (.ref C) = some (.type "type")
  hdC : hasDictIn K C = true
  te : exmOne K (.ref C) (.ref C) = some true
  fn : ∃ (oc : Value) (od : Option Addr) (doc pm : Value) (an : Option Addr) (cdv ct : Value) (osl : Array (Option Value)) (p1 p2 q1 q2 q3 q4 : Pos),
    K.lookup fI = some ⟨oc, od, .func (fnOf "__init__" "Refusal.__init__" (iA p1 p2) (iB q1 q2 q3 q4) iS .none .none doc pm an cdv ct), osl⟩ ∧ codeIn K cdv "Refusal.__init__" = true
theorem one_size (v : Value) : [v].length ≤ sizeLine := by
  rw [sizeLine_eq]
  exact (by decide : 1 ≤ 16777216)
theorem kept_but {K : Frag} {h h' : Heap} {x : Addr} (X : K.In h) (hx : K.lookup x = none) (k : ∀ b o, b ≠ x → h.get? b = some o → h'.get? b = some o) : K.In h' := fun a o e =>
  k a o (fun z => by rw [z, hx] at e; cases e) (X a o e)
theorem ldC {M : Model} {s : Shared} {name : Str} {scope : Scope} {L a : Addr} {cd : Value} {m : Str → Option Value} {x : Str} {pos : Pos} {v : Value} {Q : Value → Shared → Prop} {A : Around} {E : Value → Shared → Prop} (hn : s.heap.Ns L m) (hv : m x = some v) (h : Q v s)
    (hk : scope.kind = .function := by rfl) (hl : (envOfC name scope L a cd).kindOf x = some .local := by rfl) (hd : (x == ("__debug__" : Str)) = false := by decide) :
    wpAny M A (eval (.Name x pos) (envOfC name scope L a cd)) Q E s := wpAny_Name (wpAny_loadName_local hk hl hn hv h) hd
/-- what __init__ leaves of a fresh exception at x -/
structure InitEnd (h h' : Heap) (x C dx t1 : Addr) (v : Value) : Prop where
  keep : ∀ b o, b ≠ x → h.get? b = some o → h'.get? b = some o
  obj : h'.get? x = some { cls := .ref C, dict := some dx, data := .fields #[.ref t1, .none, .none, .none, .bool false, .none] }
  dbig : h.objs.size ≤ dx
  dne : dx ≠ x
  ns : h'.Ns1 dx (fun y => if y = "number" then some v else none)
/-- a made Refusal -/
structure OwnMade (h h' : Heap) (e C d : Addr) (v : Value) : Prop where
  keep : ∀ b o, h.get? b = some o → h'.get? b = some o
  new : h.objs.size ≤ e
  obj : ∃ oe vs, h'.get? e = some oe ∧ oe.cls = .ref C ∧ oe.dict = some d ∧ oe.data = .fields vs ∧ vs[1]? = some .none
  dbig : h.objs.size ≤ d
  dne : d ≠ e
  ns : h'.Ns1 d (fun y => if y = "number" then some v else none)
section
variable {prog : Program} {w : World} {A : Around} {E : Value → Shared → Prop} {R : Result → Shared → Prop} {s : Shared} {K : Frag} {mg : Str → Option Value} {C fI : Addr}
theorem ref_init (T : RefTxt K mg C fI) {x t0 : Addr} {v : Value} (X : K.In s.heap) (hlim : s.heap.NoLimit) (hx : s.heap.get? x = some (excO C t0)) (hnx : K.lookup x = none) (hroom : A.depth < recursionLimit)
    (hq : ∀ h' tk dx, InitEnd s.heap h' x C dx t0 v → R (.ok (.ret .none)) { s with heap := h', toks := tk }) :
    codeAny (model prog w) A (.call (.ref fI) ⟨[.ref x, v], []⟩) R s := by
  obtain ⟨oc, od, doc, pm, an, cdv, ct, osl, p1, p2, q1, q2, q3, q4, ho, hcd⟩ := T.fn
  obtain ⟨nm, q, N, bs, sn, sub, ab, col, dd, k0, k1, k2, k3, k5, hC⟩ := T.cls
  have hcl : clsIn K C = some { name := nm, bases := bs, mro := .ref C :: PySem.ESX.exTail, ns := N, qualname := q, hasDict := true, slotNames := sn, subclasses := sub, abstract := ab, collection := col, hasDel := false } := by unfold clsIn; rw [hC] <;> rfl
  refine Att.call_fn (binds := [("self", .ref x), ("number", v)]) X hlim ho hcd hroom (BindsTo.of_eq (by first | rfl | with_unfolding_all rfl)) (by first | rfl | decide | with_unfolding_all rfl) (fun s₁ IC => ?_) rfl rfl rfl
  obtain ⟨h₁, tk₁, rfl⟩ := IC.toInCall.same
  have k : ∀ b o, s.heap.get? b = some o → h₁.get? b = some o := IC.toInCall.keep
  have hn := IC.toInCall.ns
  have hxL : s.heap.objs.size ≠ x := Nat.ne_of_gt (Heap.lt_size hx)
  have X₁ : K.In h₁ := X.keeps k
  have hx₁ := k _ _ hx
  -- self.number = number
  show wpAny _ _ (execs _ _) _ _ _
  refine wpAny_execs_cons (plainObj_wpAny_Assign_Attribute ?_)
  refine ldC (v := v) hn (by first | rfl | with_unfolding_all rfl | kernel_rfl) (ldC (v := .ref x) hn (by first | rfl | with_unfolding_all rfl | kernel_rfl) ?_)
  refine set_plain X₁ (ox := excO C t0) (od := none) ⟨hx₁, rfl, rfl, trivial⟩ T.sa ?_
  refine PySem.ESX.osa_new X₁ hx₁ hcl rfl rfl T.noN (fun h₃ tk₃ dx k₃ dn dne hx₃ hn₃ => ?_)
  show wpAny _ _ (execs _ _) _ _ _
  have z : s.heap.objs.size < h₁.objs.size := hn.lt
  exact wpAny_execs_nil (hq h₃ tk₃ dx ⟨fun b o hb e => k₃ b o hb (k b o e), hx₃, Nat.le_of_lt (Nat.lt_of_lt_of_le z dn), dne, hn₃⟩)
theorem ref_made (T : RefTxt K mg C fI) {v : Value} (X : K.In s.heap) (hlim : s.heap.NoLimit) (hroom : A.depth + 1 < recursionLimit)
    (hq : ∀ h' tk e d, OwnMade s.heap h' e C d v → R (.ok (.ret (.ref e))) { s with heap := h', toks := tk }) :
    codeAny (model prog w) A (.call (.ref C) ⟨[v], []⟩) R s := by
  obtain ⟨nm, q, N, bs, sn, sub, ab, col, dd, k0, k1, k2, k3, k5, hC⟩ := T.cls
  obtain ⟨hp, g, dr, tk, os⟩ := s
  have k : ∀ b o, hp.get? b = some o → ((hp.push (kdv_tup [v])).push (excO C hp.objs.size)).get? b = some o := fun b o e => Heap.get?_push_of_some _ (Heap.get?_push_of_some _ e)
  have hget : ((hp.push (kdv_tup [v])).push (excO C hp.objs.size)).get? (hp.objs.size + 1) = some (excO C hp.objs.size) := by heap_get
  have hnx : K.lookup (hp.objs.size + 1) = none := by
    cases e : K.lookup (hp.objs.size + 1) with
    | none => rfl
    | some o =>
      have z : hp.get? (hp.objs.size + 1) = some o := X _ _ e
      exact absurd (Nat.lt_of_succ_lt (Heap.lt_size z)) (Nat.lt_irrefl _)
  refine call_own F.excBase_Exception (fun _ => rfl) (X _ _ hC) (looks_findIn X T.iC) (fun self => bind_fn X self T.tC) (one_size v) ?_
  refine ref_init (s := ⟨(hp.push (kdv_tup [v])).push (excO C hp.objs.size), g, dr, tk, os⟩) T (X.keeps k) (hlim.keeps k) hget hnx ?_ fun h' tk' dx ⟨k', hx, dn, dne, hns⟩ => ?_
  · show A.depth + 1 < recursionLimit
    exact hroom
  · have old : ∀ b o, hp.get? b = some o → h'.get? b = some o := fun b o e => k' b o (Nat.ne_of_lt (Nat.lt_succ_of_lt (Heap.lt_size e))) (k b o e)
    have z : hp.objs.size + 1 + 1 ≤ dx := by
      first
        | (simpa only [Heap.size_push] using dn)
        | exact dn
        | (have q := dn; rw [Heap.size_push, Heap.size_push] at q; exact q)
    exact ⟨rfl, hq h' tk' (hp.objs.size + 1) dx ⟨old, Nat.le_succ _, ⟨_, _, hx, rfl, rfl, rfl, rfl⟩, Nat.le_trans (Nat.le_trans (Nat.le_succ _) (Nat.le_succ _)) z, dne, hns⟩⟩
end
end RefX
end PySem
namespace L2
open PySem PySem.Spec PyProof.Rows
theorem relO_ref {v : V} {v' : Value} (r : RelV v v') (f : Str) : RelO (List.lookup f [(("number" : Str), v)]) (if f = "number" then some v' else none) := by
  by_cases hw : f = "number"
  · subst hw
    rw [if_pos rfl]
    have q : List.lookup ("number" : Str) [(("number" : Str), v)] = some v := by simp [List.lookup]
    rw [q]
    exact r
  · rw [if_neg hw]
    have qw : (f == ("number" : Str)) = false := by simpa using hw
    have q2 : List.lookup f [(("number" : Str), v)] = none := by simp [List.lookup, qw]
    rw [q2]
    trivial
section
variable {X : Cx} {C fI : Addr}
/-- Refusal(e) -/
def tMkRef (C : Addr) (ta : TA) : St → Hp → XK → Prop := fun σ H Q => ta σ H fun vs H1 => ∃ v, vs = [v] ∧ ∀ d, H1 d = none → Q (.ref C) (some d) (upd H1 d (.xd [(("number" : Str), v)]))
theorem pmk_ref {a : Expr} {ta : TA} {p pos : Pos} {k : Nat} (T : PySem.RefX.RefTxt X.K X.mg C fI) (hr : Room k X.A) (ha : PA X [a] ta) (hg : Gl X "Refusal" := by rfl)
    (he : starEach (a :: []) X.env = (false, eval a X.env) :: starEach [] X.env := by rfl) (hpl : (backTo pos (starEach [] X.env)).any (·.1) = false := by rfl) :
    PMk X (.Call (.Name "Refusal" p) [a] [] pos) (tMkRef C ta) := by
  intro pins s σ H Q I h
  refine wpAny_Call_Name_kw (ld_glob I hg T.gC ?_)
  refine PySem.W.callWith_K (h₀ := X.base) I.ok.mod.kin T.kC (thn (ha.run pos pins s σ H _ I h) fun us s1 hh => ?_) he hpl
  obtain ⟨vs, H1, I1, r1, v, ev, q1⟩ := hh
  subst ev
  refine ⟨I1.kIn, ?_⟩
  cases r1 with
  | cons rv rn =>
    rename_i v' us'
    cases rn
    show wpAny _ _ (call (.ref C) [v']) _ _ _
    have hlim := I1.nolimit
    obtain ⟨hp, g, dr, tk, os⟩ := s1
    refine wpAny_call (PySem.RefX.ref_made T I1.kIn hlim (by have := hr.dp; omega) fun h' tk' e d M => ?_)
    show MkP X pins σ Q (.ref e) ⟨h', g, dr, tk', os⟩
    obtain ⟨oe, fv, hoe, hc, hd, hdat, h1⟩ := M.obj
    have hns := M.ns
    obtain ⟨G', g1, g2⟩ := restrict h' fun b => decide (b ≠ e)
    have gk : ∀ b, b ≠ e → G'.get? b = h'.get? b := fun b hb => g1 b (decide_eq_true hb)
    have ge : G'.get? e = none := g2 e (by simp)
    have old : ∀ b o, hp.get? b = some o → G'.get? b = some o := fun b o q => (gk b (Nat.ne_of_lt (Nat.lt_of_lt_of_le (Heap.lt_size q) M.new))).trans (M.keep b o q)
    have ob : ObjOk X.prog X.w (upd H1 d (.xd [(("number" : Str), v)])) G' d (.xd [(("number" : Str), v)]) :=
      ⟨_, hns.at (fun o q => (gk d M.dne).trans q), fun f => relO_ref rv f⟩
    have J : Inv X pins σ (upd H1 d (.xd [(("number" : Str), v)])) ⟨G', g, dr, tk', os⟩ := I1.laid (t' := tk') old M.dbig ob
    refine ⟨e, oe, fv, ⟨G', g, dr, tk', os⟩, _, .ref C, some d, rfl, J, fun b o q => ?_, ge, hoe, ⟨hc, hd⟩, hdat, h1, ?_, rfl, I1.bare, raises_own T.exC T.tyC, q1 d (I1.hok.fresh M.dbig)⟩
    · by_cases hb : b = e
      · have q' : G'.get? b = some o := q
        rw [hb, ge] at q'; cases q'
      · exact (gk b hb).symm.trans q
    · rw [upd_ne (Ne.symm M.dne)]
      exact I1.hok.fresh M.new
/-- raise Refusal(e) -/
def tRaiseRef (C : Addr) (W : WX) (ta : TA) : TS := fun _ σ H => tMkRef C ta σ H fun cls d H' => W cls d σ H'
theorem ps_raiseRef {a : Expr} {ta : TA} {W : WX} {p pos pos2 : Pos} {k : Nat} (hc : X.calm = true) (T : PySem.RefX.RefTxt X.K X.mg C fI) (hr : Room k X.A) (tk : Takes X W) (ha : PA X [a] ta) (hg : Gl X "Refusal" := by rfl)
    (he : starEach (a :: []) X.env = (false, eval a X.env) :: starEach [] X.env := by rfl) (hpl : (backTo pos (starEach [] X.env)).any (·.1) = false := by rfl) :
    PS X (.Raise (some (.Call (.Name "Refusal" p) [a] [] pos)) none pos2) (tRaiseRef C W ta) := ps_raise hc tk (pmk_ref T hr ha hg he hpl)
/-- e.number, e the exception that the suite holds (at a; its class cls, its dict d) -/
def tNumRef (C : Addr) (a : Addr) (cls : Value) (d : Option Addr) (te : TE) : TE := fun σ H Q => te σ H fun x H1 => x = .ref a ∧ cls = .ref C ∧ ∃ (dd : Addr) (v : V), d = some dd ∧ H1 dd = some (.xd [(("number" : Str), v)]) ∧ Q v H1
theorem pe_numRef {a : Addr} {oe : Obj} {cls : Value} {d : Option Addr} {pn : List (Addr × Obj)} {e : Expr} {te : TE} {pos : Pos} (T : PySem.RefX.RefTxt X.K X.mg C fI) (hz : Zc cls d oe) (hf : ∃ vs, oe.data = .fields vs) (he : PE (X.suite a ((a, oe) :: pn)) e te)
    (hb : attributeBase e "number" X.env (eval e X.env) = eval e X.env := by rfl) :
    PE (X.suite a ((a, oe) :: pn)) (.Attribute e "number" pos) (tNumRef C a cls d te) := by
  refine ⟨fun pins s σ H Q I h => ?_⟩
  refine attr_of hb (thn (he.run pins s σ H _ I h) fun u s1 hh => ?_)
  obtain ⟨x, H1, I1, rx, ex, ec, dd, v, ed, ea, q⟩ := hh
  subst ex
  obtain rfl : u = Value.ref a := rx
  subst ec
  subst ed
  obtain ⟨ha, _⟩ := I1.pin (a, oe) (List.mem_append_left _ List.mem_cons_self)
  obtain ⟨vs, hd⟩ := hf
  have hx : ObjOk X.prog X.w H1 s1.heap dd (.xd [(("number" : Str), v)]) := I1.hok dd _ ea
  obtain ⟨mA, hns, hr⟩ := hx
  obtain ⟨od, ho, hl⟩ := lookIn_ns hns
  have l : List.lookup ("number" : Str) [(("number" : Str), v)] = some v := by simp [List.lookup]
  obtain ⟨u, hu, ru⟩ := RelO.some_of (v := v) (o := mA "number") (by rw [← l]; exact hr "number")
  have J : PySem.W.InstAt s1.heap a oe C (some od) := ⟨ha, hz.1, by unfold PySem.W.notCls; rw [hd] <;> rfl, by rw [hz.2]; exact ho⟩
  exact HandSPX.exc_get I1.kIn J T.ga T.gg T.exC (PySem.W.findObj_own T.hdC T.noN rfl (by rw [hl, hu])) (handed_of ru) ⟨v, H1, I1.tok _, ru, q⟩
end
end L2

/-! ### Words of this proof: what the top has written, defs by name, results -/
namespace N
open PySem L2
/-- a def of the top: its name holds it, its text is st, its parameters are ps -/
structure Top1 (K : PySem.W.Frag) (mg : Str → Option Value) (x : Str) (st : Stmt) (ps : List Str) : Prop where
  ex : ∃ (f : Addr) (fd : FuncData), mg x = some (.ref f) ∧ Fun K x x st f fd ∧ ∀ us : List Value, us.length = ps.length → bindArgs fd ⟨us, []⟩ = pure (ps.zip us)
theorem top1 {K : PySem.W.Frag} {h : Heap} {mg : Str → Option Value} {x : Str} {st : Stmt} {ps : List Str} {f : Addr} {oc : Value} {od an : Option Addr} {osl : Array (Option Value)} {kV doc pm cdv ct : Value} (X : K.In h) (G : h.Ns mainGlobals mg)
    (a : PySem.W.nsIn K mainGlobals x = some (some (.ref f))) (l : K.lookup f = some ⟨oc, od, .func (PySem.W.fnOf x x (defArgs st) (defBody st) (defScope st) .none kV doc pm an cdv ct), osl⟩) (c : PySem.W.codeIn K cdv x = true) (k : PySem.W.keepIn K (.ref f) = true)
    (hb : ∀ (kV doc pm : Value) (an : Option Addr) (cdv ct : Value) (us : List Value), us.length = ps.length → bindArgs (PySem.W.fnOf x x (defArgs st) (defBody st) (defScope st) .none kV doc pm an cdv ct) ⟨us, []⟩ = pure (ps.zip us)) : Top1 K mg x st ps :=
  ⟨⟨f, _, PySem.W.mg_of X G a, fun_mk l c k, hb kV doc pm an cdv ct⟩⟩
/-- a class of the top with an __init__ of its own -/
structure TopC (K : PySem.W.Frag) (mg : Str → Option Value) (x q : Str) (st : Stmt) (ps : List Str) (C : Addr) : Prop where
  mgC : mg x = some (.ref C)
  cl : Cls K C
  ex : ∃ (f : Addr) (fd : FuncData), Mk K C f ∧ Fun K "__init__" q st f fd ∧ Binds K fd ps []
theorem topC {K : PySem.W.Frag} {h : Heap} {mg : Str → Option Value} {x q : Str} {st : Stmt} {ps : List Str} {C f : Addr} {oc : Value} {od an : Option Addr} {osl : Array (Option Value)} {kV doc pm cdv ct : Value} (X : K.In h) (G : h.Ns mainGlobals mg)
    (aC : PySem.W.nsIn K mainGlobals x = some (some (.ref C))) (pg : PySem.W.plainGet K C Str.empty = true) (hd : PySem.W.hasDictIn K C = true) (po : PySem.W.plainOver K C = true) (sa : PySem.W.findIn K (.ref C) "__setattr__" = some (some (.builtin "object.__setattr__")))
    (mk : PySem.W.makesIn K C = true) (kc : PySem.W.keepIn K (.ref C) = true) (a : PySem.W.findIn K (.ref C) "__init__" = some (some (.ref f))) (i : PySem.W.isFn K (.ref f) = true)
    (l : K.lookup f = some ⟨oc, od, .func (PySem.W.fnOf "__init__" q (defArgs st) (defBody st) (defScope st) .none kV doc pm an cdv ct), osl⟩) (c : PySem.W.codeIn K cdv q = true) (k : PySem.W.keepIn K (.ref f) = true)
    (hb : ∀ (kV doc pm : Value) (an : Option Addr) (cdv ct : Value) (us : List Value), us.length = ps.length → bindArgs (PySem.W.fnOf "__init__" q (defArgs st) (defBody st) (defScope st) .none kV doc pm an cdv ct) ⟨us, []⟩ = pure (ps.zip us)) : TopC K mg x q st ps C :=
  ⟨PySem.W.mg_of X G aC, ⟨pg, hd, po, sa⟩, ⟨f, _, ⟨mk, a, i, kc⟩, fun_mk l c k, (fun_mk l c k).binds hb⟩⟩
/-- a class whose instances' fields are read -/
structure ClF (K : PySem.W.Frag) (C : Addr) (fs : List Str) : Prop where
  cl : Cls K C
  no : ∀ f ∈ fs, NoAttr K C f
theorem clf_nil {K : PySem.W.Frag} {C : Addr} (c : Cls K C) : ClF K C [] := ⟨c, fun f h => absurd h (by simp)⟩
theorem clf_cons {K : PySem.W.Frag} {C : Addr} {f : Str} {fs : List Str} (h : PySem.W.findIn K (.ref C) f = some none) (r : ClF K C fs) : ClF K C (f :: fs) := ⟨r.cl, fun g m => by
  rcases List.mem_cons.mp m with e | m
  · rw [e]; exact h
  · exact r.no g m⟩
/-- a constant: a whole number -/
def CI (mg : Str → Option Value) (x : Str) (n : Int) : Prop := ∃ t, mg x = some (.int n t)
theorem ci {K : PySem.W.Frag} {h : Heap} {mg : Str → Option Value} {x : Str} {n : Int} {t : Tok} (X : K.In h) (G : h.Ns mainGlobals mg) (a : PySem.W.nsIn K mainGlobals x = some (some (.int n t))) : CI mg x n := ⟨t, PySem.W.mg_of X G a⟩
/-- a constant: a tuple of whole numbers -/
def CT (K : PySem.W.Frag) (mg : Str → Option Value) (x : Str) (ns : List Int) : Prop := ∃ a, mg x = some (.ref a) ∧ ∀ H : Hp, SqT K H a (ns.map V.int)
theorem ct4 {K : PySem.W.Frag} {h : Heap} {mg : Str → Option Value} {x : Str} {a : Addr} {dd : Option Addr} {n : Nat} {sl : Array (Option Value)} {k1 k2 k3 k4 : Int} {t1 t2 t3 t4 : Tok} (X : K.In h) (G : h.Ns mainGlobals mg) (e : PySem.W.nsIn K mainGlobals x = some (some (.ref a)))
    (l : K.lookup a = some ⟨.type "tuple", dd, .seq #[.int k1 t1, .int k2 t2, .int k3 t3, .int k4 t4] n, sl⟩) : CT K mg x [k1, k2, k3, k4] :=
  ⟨a, PySem.W.mg_of X G e, fun H => .inr ⟨_, _, n, l, rfl, rfl, by show 4 ≤ sizeLine; decide, .cons ⟨_, rfl⟩ (.cons ⟨_, rfl⟩ (.cons ⟨_, rfl⟩ (.cons ⟨_, rfl⟩ .nil)))⟩⟩
theorem ct3 {K : PySem.W.Frag} {h : Heap} {mg : Str → Option Value} {x : Str} {a : Addr} {dd : Option Addr} {n : Nat} {sl : Array (Option Value)} {k1 k2 k3 : Int} {t1 t2 t3 : Tok} (X : K.In h) (G : h.Ns mainGlobals mg) (e : PySem.W.nsIn K mainGlobals x = some (some (.ref a)))
    (l : K.lookup a = some ⟨.type "tuple", dd, .seq #[.int k1 t1, .int k2 t2, .int k3 t3] n, sl⟩) : CT K mg x [k1, k2, k3] :=
  ⟨a, PySem.W.mg_of X G e, fun H => .inr ⟨_, _, n, l, rfl, rfl, by show 3 ≤ sizeLine; decide, .cons ⟨_, rfl⟩ (.cons ⟨_, rfl⟩ (.cons ⟨_, rfl⟩ .nil))⟩⟩

/-- the same, K told by what stands -/
abbrev Top1At {K : PySem.W.Frag} {h : Heap} (_ : K.In h) := Top1 K
abbrev TopCAt {K : PySem.W.Frag} {h : Heap} (_ : K.In h) := TopC K
abbrev ClFAt {K : PySem.W.Frag} {h : Heap} (_ : K.In h) := ClF K
abbrev CTAt {K : PySem.W.Frag} {h : Heap} (_ : K.In h) := CT K
/-- the def of this name keeps the promise sp, by at most level k -/
structure Def (P : Program) (w : World) (K : PySem.W.Frag) (mg : Str → Option Value) (base : Heap) (CX : CXT) (x : Str) (k : Nat) (ps : List Str) (sp : Sp) : Prop where
  ex : ∃ (f : Addr) (fd : FuncData), mg x = some (.ref f) ∧ PySem.W.keepIn K (.ref f) = true ∧ Binds K fd ps [] ∧ (∃ (oc : Value) (od : Option Addr) (osl : Array (Option Value)), K.lookup f = some ⟨oc, od, .func fd, osl⟩) ∧ FnOk P w K mg base CX k f fd ps sp
section
variable {P : Program} {w : World} {K : PySem.W.Frag} {mg : Str → Option Value} {base : Heap}
theorem Def.mono {CX : CXT} {x : Str} {j k : Nat} {ps : List Str} {sp : Sp} (d : Def P w K mg base CX x j ps sp) (h : j ≤ k) : Def P w K mg base CX x k ps sp := by
  obtain ⟨f, fd, a, b, c, l, e⟩ := d.ex
  exact ⟨⟨f, fd, a, b, c, l, e.mono h⟩⟩
theorem _root_.L2.Fun.there {x qual : Str} {st : Stmt} {f : Addr} {fd : FuncData} (F : Fun K x qual st f fd) : ∃ (oc : Value) (od : Option Addr) (osl : Array (Option Value)), K.lookup f = some ⟨oc, od, .func fd, osl⟩ := by
  obtain ⟨oc, od, kV, doc, pm, an, cdv, ct, osl, rfl, lk, hcd⟩ := F.ex
  exact ⟨oc, od, osl, lk⟩
/-- a def that raises nothing: its body's walk -/
theorem Top1.ok {x : Str} {st : Stmt} {L ps : List Str} {k : Nat} {sp : Sp} (T : Top1 K mg x st ps) (S : FnScope L ps (defScope st)) (len : ∀ vs H Q E, sp vs H Q E → vs.length = ps.length)
    (hbody : ∀ (f : Addr) (cdv : Value) (A : Around) (outer : List Env) (s : Shared) (H : Hp) (vs : List V) (Q : VK) (E : XK), Room k (A.deeper (PyProof.Rows.envOfC x (defScope st) s.heap.objs.size f cdv)) → sp vs H Q E →
      ∃ t, PSs (cxOf CX0 P w K mg base L x (defScope st) f cdv A outer s H E).nox (defBody st) t ∧ t { nx := fun _ H' => Q .non H', rt := Q } (start L vs) H) : Def P w K mg base CX0 x (k + 1) ps sp := by
  obtain ⟨f, fd, a, F, b⟩ := T.ex
  exact ⟨⟨f, fd, a, F.kp, Binds.all b, F.there, F.ok S len (hbody f)⟩⟩
/-- a def that may raise -/
theorem Top1.okX {x : Str} {st : Stmt} {L ps : List Str} {k : Nat} {sp : Sp} (T : Top1 K mg x st ps) (S : FnScope L ps (defScope st)) (len : ∀ vs H Q E, sp vs H Q E → vs.length = ps.length)
    (hbody : ∀ (f : Addr) (cdv : Value) (A : Around) (outer : List Env) (s : Shared) (H : Hp) (vs : List V) (Q : VK) (E : XK), Room k (A.deeper (PyProof.Rows.envOfC x (defScope st) s.heap.objs.size f cdv)) → sp vs H Q E →
      ∃ t, PSs (cxOf (L2.CX P w) P w K mg base L x (defScope st) f cdv A outer s H E) (defBody st) t ∧ t { nx := fun _ H' => Q .non H', rt := Q } (start L vs) H) : Def P w K mg base (L2.CX P w) x (k + 1) ps sp := by
  obtain ⟨f, fd, a, F, b⟩ := T.ex
  exact ⟨⟨f, fd, a, F.kp, Binds.all b, F.there, F.okX S len (hbody f)⟩⟩
/-- a class whose __init__ keeps sp, by at most level k -/
structure DefC (P : Program) (w : World) (K : PySem.W.Frag) (mg : Str → Option Value) (base : Heap) (x : Str) (C : Addr) (k : Nat) (ps : List Str) (sp : Sp) : Prop where
  mgC : mg x = some (.ref C)
  ex : ∃ (f : Addr) (fd : FuncData), Mk K C f ∧ Binds K fd ps [] ∧ FnOk P w K mg base CX0 k f fd ps sp
theorem TopC.ok {x q : Str} {st : Stmt} {C : Addr} {L ps : List Str} {k : Nat} {sp : Sp} (T : TopC K mg x q st ps C) (S : FnScope L ps (defScope st)) (len : ∀ vs H Q E, sp vs H Q E → vs.length = ps.length)
    (hbody : ∀ (f : Addr) (cdv : Value) (A : Around) (outer : List Env) (s : Shared) (H : Hp) (vs : List V) (Q : VK) (E : XK), Room k (A.deeper (PyProof.Rows.envOfC q (defScope st) s.heap.objs.size f cdv)) → sp vs H Q E →
      ∃ t, PSs (cxOf CX0 P w K mg base L q (defScope st) f cdv A outer s H E).nox (defBody st) t ∧ t { nx := fun _ H' => Q .non H', rt := Q } (start L vs) H) : DefC P w K mg base x C (k + 1) ps sp := by
  obtain ⟨f, fd, a, F, b⟩ := T.ex
  exact ⟨T.mgC, f, fd, a, b, F.ok S len (hbody f)⟩
end

section
variable {X : Cx} {CX : CXT} {k : Nat} {x : Str} {ps : List Str} {sp : Sp} {p pos : Pos} {e : Expr} {es : List Expr} {t : TA} {E : XK} {C : Addr}
/-- a call of a def by its name -/
theorem pe_fn (d : Def X.prog X.w X.K X.mg X.base CX x k ps sp) (hr : Room k X.A) (hx : Passes CX X E) (ha : PA X (e :: es) t) (hg : Gl X x := by rfl)
    (hdb : (x == ("__debug__" : Str)) = false := by decide) (he : starEach (e :: es) X.env = (false, eval e X.env) :: starEach es X.env := by rfl) (hpl : (backTo pos (starEach es X.env)).any (·.1) = false := by rfl) :
    PE X (.Call (.Name x p) (e :: es) [] pos) (tCall sp [] E t) := by
  obtain ⟨f, fd, a, b, c, _, F⟩ := d.ex
  exact pe_call F hr hg a b c .nil hx ha hdb he hpl
/-- a call where what is raised is wished for at the caller's slots -/
theorem pe_fnS {W : WX} (d : Def X.prog X.w X.K X.mg X.base (L2.CX X.prog X.w) x k ps sp) (hr : Room k X.A) (tk : Takes X W) (ha : PA X (e :: es) t) (hg : Gl X x := by rfl)
    (hdb : (x == ("__debug__" : Str)) = false := by decide) (he : starEach (e :: es) X.env = (false, eval e X.env) :: starEach es X.env := by rfl) (hpl : (backTo pos (starEach es X.env)).any (·.1) = false := by rfl) :
    PE X (.Call (.Name x p) (e :: es) [] pos) (tCallS sp (WE W) t) := by
  obtain ⟨f, fd, a, b, c, _, F⟩ := d.ex
  exact pe_callS F hr hg a b c (fun σ => passAt tk σ) ha hdb he hpl
/-- an instance is made -/
theorem pe_new (d : DefC X.prog X.w X.K X.mg X.base x C k ps sp) (hr : Room (k + 1) X.A) (ha : PA X (e :: es) t) (hg : Gl X x := by rfl)
    (hdb : (x == ("__debug__" : Str)) = false := by decide) (he : starEach (e :: es) X.env = (false, eval e X.env) :: starEach es X.env := by rfl) (hpl : (backTo pos (starEach es X.env)).any (·.1) = false := by rfl) :
    PE X (.Call (.Name x p) (e :: es) [] pos) (tMake C sp [] E0 t) := by
  obtain ⟨f, fd, m, b, F⟩ := d.ex
  exact pe_make m F hr hg d.mgC b .nil pass0 ha hdb he hpl
/-- a constant's name -/
theorem pe_ci {n : Int} (c : CI X.mg x n) (hg : Gl X x := by rfl) (hd : (x == ("__debug__" : Str)) = false := by decide) : PE X (.Name x pos) (tC (.int n)) := by
  obtain ⟨t, h⟩ := c
  exact pe_glob hg h ⟨t, rfl⟩ hd
/-- a constant tuple's name -/
def tCT (K : PySem.W.Frag) (ns : List Int) : TE := fun _ H Q => ∀ a, (∀ H : Hp, SqT K H a (ns.map V.int)) → Q (.ref a) H
theorem pe_ct {ns : List Int} (c : CT X.K X.mg x ns) (hg : Gl X x := by rfl) (hd : (x == ("__debug__" : Str)) = false := by decide) : PE X (.Name x pos) (tCT X.K ns) := by
  obtain ⟨a, h, q⟩ := c
  refine ⟨fun pins s σ H Q I hw => ?_⟩
  exact (pe_glob hg h (v := .ref a) rfl hd).run pins s σ H Q I (hw a q)
end

/-! ### results -/
/-- a refusal with number n leaves: E at some later heap -/
def Fails (C : Addr) (E : XK) (H : Hp) (n : Int) : Prop := ∀ (d : Addr) (H' : Hp), Same H H' → H' d = some (.xd [(("number" : Str), .int n)]) → E (.ref C) (some d) H'
/-- what a def answers: a value that stands for x, or the refusal -/
def Out {α : Type} (C : Addr) (Q : VK) (E : XK) (H : Hp) (R : α → V → Hp → Prop) : Except Int α → Prop
  | .ok x => ∀ (v : V) (H' : Hp), Same H H' → R x v H' → Q v H'
  | .error n => Fails C E H n
/-- a value alone, no refusal -/
def Got (Q : VK) (H : Hp) (R : V → Hp → Prop) : Prop := ∀ (v : V) (H' : Hp), Same H H' → R v H' → Q v H'
theorem Got.back {Q : VK} {H H1 : Hp} {R : V → Hp → Prop} (e : Same H H1) (g : Got Q H R) : Got Q H1 R := fun v H' a r => g v H' (e.trans a) r
theorem Fails.back {C : Addr} {E : XK} {H H1 : Hp} {n : Int} (e : Same H H1) (g : Fails C E H n) : Fails C E H1 n := fun d H' a r => g d H' (e.trans a) r
theorem same_new {H : Hp} {p : Addr} (h : H p = none) (o : HO) : Same H (upd H p o) := fun b u q => by rw [upd_ne (ne_of_none q h)]; exact q
/-- an object that H does not know changes -/
theorem Same.mut {H H' : Hp} {p : Addr} {o : HO} (e : Same H H') (h : H p = none) : Same H (upd H' p o) := fun a u ha => by
  rw [upd_ne (ne_of_none ha h)]
  exact e a u ha
theorem getI {ns : List Int} {i : Nat} {y : V} (h : (ns.map V.int)[i]? = some y) : ∃ z, ns[i]? = some z ∧ y = V.int z := by
  rw [List.getElem?_map] at h
  cases e : ns[i]? with
  | none =>
    rw [e] at h
    cases h
  | some z =>
    rw [e] at h
    exact ⟨z, rfl, (Option.some.inj h).symm⟩
theorem atI_int {ns : List Int} {i : Int} {z : Int} (h0 : 0 ≤ i) (h : ns[i.toNat]? = some z) : atI (ns.map V.int) i = some (.int z) := by
  have e : i = ((i.toNat : Nat) : Int) := by omega
  rw [e]
  refine atI_nat ?_
  rw [List.getElem?_map, h]
  rfl
theorem itT {c A B : Prop} [Decidable c] (hc : c) (h : A) : if decide c = true then A else B := by
  rw [if_pos (decide_eq_true hc)]
  exact h
theorem itF {c A B : Prop} [Decidable c] (hc : ¬ c) (h : B) : if decide c = true then A else B := by
  rw [if_neg (fun z => hc (of_decide_eq_true z))]
  exact h
theorem ifT {b : Bool} {A B : Prop} (hc : b = true) (h : A) : if b = true then A else B := by
  rw [if_pos hc]
  exact h
theorem ifF {b : Bool} {A B : Prop} (hc : b = false) (h : B) : if b = true then A else B := by
  rw [if_neg (by rw [hc]; exact Bool.false_ne_true)]
  exact h
end N
/-! ### the end: from the promise of the row's def to the row -/
namespace N
open PySem L2
theorem exm_self {K : PySem.W.Frag} {S : Addr} (h1 : PySem.W.subIn K (.ref S) (.type "BaseException") = some true) (h2 : PySem.W.isClsIn K S = true) (h3 : PySem.W.typeIn K (.ref S) = some (.type "type")) (h4 : PySem.W.subIn K (.ref S) (.ref S) = some true) :
    PySem.W.exmOne K (.ref S) (.ref S) = some true := by
  have e1 : (PySem.W.subIn K (.ref S) (.type "BaseException") == some true) = true := by rw [h1] <;> rfl
  have e2 : ((PySem.W.clsIn K S).isSome && PySem.W.typeIn K (.ref S) == some (.type "type")) = true := by
    have h2' : (PySem.W.clsIn K S).isSome = true := h2
    rw [h2', h3] <;> rfl
  show (if (PySem.W.subIn K (.ref S) (.type "BaseException") == some true) = true then (if ((PySem.W.clsIn K S).isSome && PySem.W.typeIn K (.ref S) == some (.type "type")) = true then PySem.W.subIn K (.ref S) (.ref S) else none) else none) = some true
  rw [if_pos e1, if_pos e2]
  exact h4
abbrev RefTxtAt {K : PySem.W.Frag} {h : Heap} (_ : K.In h) := PySem.RefX.RefTxt K
theorem refTxt {K : PySem.W.Frag} {h : Heap} {mg : Str → Option Value} {C f1 : Addr} (X : K.In h) (G : h.Ns mainGlobals mg) {nm q : Str} {N : Addr} {bs : List Value} {sn : List Str} {sub : List Value} {ab : Bool} {col : Option Bool} {dd : Option Addr} {m0 m1 m2 m3 m5 : Option Value}
    {od1 an1 : Option Addr} {sl1 : Array (Option Value)} {oc1 dc1 pm1 cd1 ct1 : Value} {p1 p2 q1 q2 q3 q4 : Pos}
    (aC : PySem.W.nsIn K mainGlobals "Refusal" = some (some (.ref C)))
    (xL : K.lookup C = some (excClassObj nm q C N bs [.type "Exception", .type "BaseException", .type "object"] true sn sub ab col dd m0 m1 m2 m3 m5 "Exception.__new__"))
    (sa : PySem.W.findIn K (.ref C) "__setattr__" = some (some (.builtin "object.__setattr__"))) (ga : PySem.W.findIn K (.ref C) "__getattribute__" = some (some (.builtin "BaseException.__getattribute__"))) (gg : PySem.W.findIn K (.ref C) "__getattr__" = some none) (nb : PySem.W.findIn K (.ref C) "number" = some none)
    (a1 : PySem.W.findIn K (.ref C) "__init__" = some (some (.ref f1))) (t1 : PySem.W.typeIn K (.ref f1) = some (.type "function"))
    (l1 : K.lookup f1 = some ⟨oc1, od1, .func (PySem.W.fnOf "__init__" "Refusal.__init__" (PySem.RefX.iA p1 p2) (PySem.RefX.iB q1 q2 q3 q4) PySem.RefX.iS .none .none dc1 pm1 an1 cd1 ct1), sl1⟩) (c1 : PySem.W.codeIn K cd1 "Refusal.__init__" = true)
    (kC : PySem.W.keepIn K (.ref C) = true) (eC : PySem.W.subIn K (.ref C) (.type "BaseException") = some true) (tC : PySem.W.typeIn K (.ref C) = some (.type "type")) (hC : PySem.W.hasDictIn K C = true) (iC : PySem.W.isClsIn K C = true) (sC : PySem.W.subIn K (.ref C) (.ref C) = some true) : PySem.RefX.RefTxt K mg C f1 :=
  { gC := PySem.W.mg_of X G aC, cls := ⟨nm, q, N, bs, sn, sub, ab, col, dd, m0, m1, m2, m3, m5, xL⟩, sa := sa, ga := ga, gg := gg, noN := nb, iC := a1, tC := t1, kC := kC, exC := eC, tyC := tC, hdC := hC, te := exm_self eC iC tC sC, fn := ⟨_, _, _, _, _, _, _, _, _, _, _, _, _, _, l1, c1⟩ }
theorem top_end {P : Program} {w : World} {K : PySem.W.Frag} {mg : Str → Option Value} {x : Str} {st : Stmt} {ps : List Str} {k : Nat} {sp : Sp} {fa : Addr} (T : Top1 K mg x st ps) (hfa : mg x = some (.ref fa))
    (D : ∀ base : Heap, K.In base → base.Ns mainGlobals mg → Def P w K mg base CX0 x k ps sp) :
    ∃ fd : FuncData, (∀ (s : Shared) (us : List Value), us.length = ps.length → BindsTo s fd ⟨us, []⟩ (ps.zip us)) ∧ ∀ base : Heap, K.In base → base.Ns mainGlobals mg → FnOk P w K mg base CX0 k fa fd ps sp := by
  obtain ⟨f, fd, a, F, b⟩ := T.ex
  have e := hfa.symm.trans a
  cases e
  refine ⟨fd, fun s us hu => .of_eq (b us hu), fun base h1 h2 => ?_⟩
  obtain ⟨f', fd', a', k', b', ⟨oc, od, osl, lk⟩, ok⟩ := (D base h1 h2).ex
  have e := a.symm.trans a'
  cases e
  obtain ⟨oc2, od2, kV, doc, pm, an, cdv, ct, osl2, e2, lk2, _⟩ := F.ex
  have e3 := lk.symm.trans lk2
  injection e3 with e4
  injection e4 with _ _ e5 _
  injection e5 with e6
  subst e6
  exact ok
/-- arguments: bytes, whole numbers -/
theorem arg_bytes {m : Nat} {ns : List Int} (h : PySem.W.Codec.within (.list 0 m (.int (Int.ofNat 0) (Int.ofNat 255))) ns = true) : ∃ t : List Nat, ns = t.map (fun (n : Nat) => (n : Int)) ∧ t.length ≤ m ∧ ∀ c ∈ t, c ≤ 255 := by
  have h : (PySem.W.Codec.inLen 0 m ns && ns.all (PySem.W.Codec.inInt (Int.ofNat 0) (Int.ofNat 255))) = true := h
  obtain ⟨h1, h2⟩ := Bool.and_eq_true_iff.mp h
  have h1 : (decide (0 ≤ ns.length) && decide (ns.length ≤ m)) = true := h1
  have hl : ns.length ≤ m := of_decide_eq_true (Bool.and_eq_true_iff.mp h1).2
  have hall : ∀ n ∈ ns, (0 : Int) ≤ n ∧ n ≤ 255 := fun n hn => by
    have q : (decide ((0 : Int) ≤ n) && decide (n ≤ 255)) = true := List.all_eq_true.mp h2 n hn
    obtain ⟨a, b⟩ := Bool.and_eq_true_iff.mp q
    exact ⟨of_decide_eq_true a, of_decide_eq_true b⟩
  refine ⟨ns.map Int.toNat, ?_, by rw [List.length_map]; exact hl, fun c hc => ?_⟩
  · rw [List.map_map]
    conv => lhs; rw [← List.map_id ns]
    exact List.map_congr_left fun n hn => by
      have := (hall n hn).1
      show n = ((n.toNat : Nat) : Int)
      omega
  · obtain ⟨n, hn, rfl⟩ := List.mem_map.mp hc
    have := hall n hn
    omega
theorem arg_ints {m : Nat} {lo hi : Int} {ns : List Int} (h : PySem.W.Codec.within (.list 0 m (.int lo hi)) ns = true) : ns.length ≤ m ∧ ∀ n ∈ ns, lo ≤ n ∧ n ≤ hi := by
  have h : (PySem.W.Codec.inLen 0 m ns && ns.all (PySem.W.Codec.inInt lo hi)) = true := h
  obtain ⟨h1, h2⟩ := Bool.and_eq_true_iff.mp h
  have h1 : (decide (0 ≤ ns.length) && decide (ns.length ≤ m)) = true := h1
  refine ⟨of_decide_eq_true (Bool.and_eq_true_iff.mp h1).2, fun n hn => ?_⟩
  have q : (decide (lo ≤ n) && decide (n ≤ hi)) = true := List.all_eq_true.mp h2 n hn
  obtain ⟨a, b⟩ := Bool.and_eq_true_iff.mp q
  exact ⟨of_decide_eq_true a, of_decide_eq_true b⟩
theorem arg_int {lo hi n : Int} (h : PySem.W.Codec.within (.int lo hi) n = true) : lo ≤ n ∧ n ≤ hi := by
  have q : (decide (lo ≤ n) && decide (n ≤ hi)) = true := h
  obtain ⟨a, b⟩ := Bool.and_eq_true_iff.mp q
  exact ⟨of_decide_eq_true a, of_decide_eq_true b⟩
theorem text_ok {t : List Nat} (h : ∀ c ∈ t, c ≤ 255) : VaarrmNeutral.text (t.map fun (n : Nat) => (n : Int)) = some t := by
  unfold VaarrmNeutral.text
  have e : NeutralIO.bytes (t.map fun (n : Nat) => (n : Int)) = true := by
    unfold NeutralIO.bytes
    rw [List.all_eq_true]
    intro n hn
    obtain ⟨c, hc, rfl⟩ := List.mem_map.mp hn
    have := h c hc
    simp only [Bool.and_eq_true, decide_eq_true_eq]
    omega
  rw [if_pos e, List.map_map]
  congr 1
  conv => rhs; rw [← List.map_id t]
  exact List.map_congr_left fun n _ => by
    show ((n : Int)).toNat = n
    exact Int.toNat_natCast n
end N
/-! ### a list comprehension in which a call may raise -/
namespace N
open PySem PySem.Spec PyProof.Rows L2
/-- frames, their own objects alone looked at -/
theorem ff_at {h h' B B' : Heap} : ∀ {l : List Env}, h.FunFrames B l → (∀ c o, c ∈ frs l → h.get? c = some o → h'.get? c = some o) → (∀ c, c ∈ frs l → B'.get? c = none) → h'.FunFrames B' l
  | [], _, _, _ => trivial
  | env :: l, ⟨hk, ⟨L, o, hf, _, ho, hd⟩, r⟩, k, b => by
    have hm : L ∈ frs (env :: l) := List.mem_filterMap.mpr ⟨env, List.mem_cons_self, hf⟩
    have up : ∀ c, c ∈ frs l → c ∈ frs (env :: l) := fun c hc => by
      obtain ⟨e, he, q⟩ := List.mem_filterMap.mp hc
      exact List.mem_filterMap.mpr ⟨e, List.mem_cons_of_mem _ he, q⟩
    exact ⟨hk, ⟨L, o, hf, b L hm, k L o hm ho, hd⟩, ff_at r (fun c o hc => k c o (up c hc)) fun c hc => b c (up c hc)⟩
section
variable {M : Model} {A : Around} {E : Value → Shared → Prop} {s : Shared} {Z : Obj → Prop} {B : Heap} {env : Env} {outer : List Env} {L e : Addr}
/-- it leaves a frame, whatever stands in its flight -/
theorem leave_any {fl : Value} {Q : Unit → Shared → Prop} (hZ : HandSPX.Steady Z) (hfr : A.frames = some (env :: outer)) (hf : env.frame = some L) (kb : B.StaysIn s.heap) (ne : B.get? e = none) (ff : s.heap.FunFrames B (env :: outer)) (ht : HandSPX.TracedZ s.heap B e Z fl)
    (hQ : ∀ h', HandSPX.FlyingZ B outer e Z h' → s.heap.UpToSlots h' → Q () { s with heap := h' }) : wpAny M A (leaving env (.ref e)) Q E s := by
  obtain ⟨oe, vs, T, oT, ts, he, hz, hd, h1, hnT, hTe, hT, hdT, h3⟩ := id ht
  by_cases hl : (fl == rawInt L) = true
  · unfold leaving noteFrame
    simp only [hf]
    refine wpAny_bind (wpAny_bind (wpAny_field he hd h1 ?_))
    rw [if_pos (show (Value.ref T != Value.none) = true from by simp)]
    refine wpAny_bind (wpAny_field hT hdT h3 ?_)
    rw [if_pos hl]
    refine wpAny_pure (HandSPX.setFlight_noneZ kb ff ht fun h' k1 k2 k3 k4 => ?_)
    obtain ⟨_, _, k2⟩ := k2
    exact hQ h' ⟨k1, ne, k2, k3⟩ k4
  · unfold leaving noteFrame
    simp only [hf]
    refine wpAny_bind (wpAny_bind (wpAny_field he hd h1 ?_))
    rw [if_pos (show (Value.ref T != Value.none) = true from by simp)]
    refine wpAny_bind (wpAny_field hT hdT h3 ?_)
    rw [if_neg hl]
    refine wpAny_bind (wpAny_setField hT hdT (Array.getElem?_eq_some_iff.mp h3).1 ?_)
    have off : ∀ b, b ≠ T → (s.heap.update T (Obj.mapFields (·.setIfInBounds 3 Value.none))).get? b = s.heap.get? b := fun b hb => Heap.get?_update_other _ _ (Ne.symm hb)
    have plain : ∀ b o, s.heap.get? b = some o → (∀ vs, o.data ≠ .fields vs) → b ≠ T := fun b o hb hn q => by
      rw [q, hT] at hb
      injection hb with hb
      subst hb
      exact hn ts hdT
    refine HandSPX.wpAny_newEntryZ hZ hfr (ff.of_keeps fun b o hb hn => ⟨o, (off b (plain b o hb hn)).trans hb, rfl⟩) hf ((off e (Ne.symm hTe)).trans he) (fun b o q => (off b fun z => by rw [z, hnT] at q; cases q).trans (kb b o q)) ne hd (Array.getElem?_eq_some_iff.mp h1).1 hz fun h' hL => ?_
    obtain ⟨x1, ⟨_, _, x2⟩, x3, x4⟩ := hL
    exact hQ h' ⟨x1, ne, x2, x3⟩ fun b o hb hn => x4 b o ((off b (plain b o hb hn)).trans hb) hn
end
/-- what flies out of a comprehension's item leaves the def -/
theorem lcx_out {X : Cx} {pins : List (Addr × Obj)} {σ : L2.St} {H3 : Hp} {s3 : Shared} (I3 : Inv X pins σ H3 s3) {scope : Scope} {ce : Env} {fp : List Addr} {C : Addr} (hC : s3.heap.objs.size = C) (cL : ce.locals = C) (cf : ce.frame = X.env.frame)
    (f3 : ∀ b ∈ fp, FpOk X pins H3 b) (hs : X.stack = X.env :: X.outer) (hf : X.env.frame = some X.env.locals) (hex : X.ex = []) {E : XK} {E1 : Value → Shared → Prop}
    (hx : X.xe = fun e s' => wpAny (model X.prog X.w) X.A (leaving X.env e) (fun _ s'' => CX X.prog X.w X.outer X.H_0 X.s_0 E e s'') E1 s')
    {pins5 : List (Addr × Obj)} {σ5 : L2.St} {H5 : Hp} {s5 : Shared} (I5 : Inv (X.blk s3 H3 scope ce fp) pins5 σ5 H5 s5) {e : Value} {s' : Shared} (c : CX X.prog X.w X.stack H5 s5 E e s')
    {use : Option (Value → Sem Unit)} {Qf : Value → Shared → Prop} {acc : Value} :
    notedBy (model X.prog X.w) X.A ce (fun e s' => compPost (model X.prog X.w) X.A X.xe use Qf acc C (.error e) s') e s' := by
  obtain ⟨a, B, H', cls, d, rfl, fl, hok, ub, na, os, ag, hE⟩ := c
  have hfr : X.A.frames = some (X.env :: X.outer) := by rw [I3.ok.frames, hs]
  have en : noteFrame (.ref a) ce = noteFrame (.ref a) X.env := by
    unfold noteFrame PySem.frameOf
    rw [cf]
  have nC : H5 C = none := by
    have z : H5 ce.locals = none := I5.free
    rw [cL] at z
    exact z
  obtain ⟨m, hn, _⟩ := I5.loc
  have hn : s5.heap.Ns ce.locals m := hn
  rw [cL] at hn
  obtain ⟨oC, es, ep, hoC, hr⟩ := id hn
  have cF : C ∉ frs X.stack := fun hm => by
    obtain ⟨_, o, ho, _⟩ := I3.stack.mem hm
    exact Nat.lt_irrefl _ (hC ▸ Heap.lt_size ho)
  have hCB : B.get? C = some oC := ub.keep C oC hoC nC cF
  have nC' : H' C = none := ub.free C oC hoC nC
  have b5 : Un (frs X.stack) fp H3 H5 s3.heap s5.heap := I5.base
  show wpAny _ _ (noteFrame (.ref a) ce) _ _ s'
  rw [en]
  rw [hs] at fl
  refine HandSPX.looks_onZ Zc.steady hfr hf fl fun h1 hh1 up1 => ?_
  obtain ⟨kb, ne, ff, tz⟩ := hh1
  show ∃ m, _
  refine ⟨m, ⟨oC, es, ep, kb C oC hCB, hr⟩, fun h2 sb cenv hc => ?_⟩
  have k2 : ∀ b, b ≠ C → h2.get? b = h1.get? b := fun b hb => sb.2 b hb
  generalize hB' : PySem.W.hideAll B [C] = B'
  have bB : ∀ b o, B'.get? b = some o → B.get? b = some o ∧ b ≠ C := fun b o q => by
    rw [← hB'] at q
    refine ⟨PySem.W.of_hideAll _ q, fun z => ?_⟩
    rw [z, PySem.W.hideAll_none [C] List.mem_cons_self] at q
    cases q
  have bN : ∀ b, B.get? b = none → B'.get? b = none := fun b q => by
    cases e : B'.get? b with
    | none => rfl
    | some o =>
      rw [(bB b o e).1] at q
      cases q
  have bK : ∀ b o, B.get? b = some o → b ≠ C → B'.get? b = some o := fun b o q hb => by
    rw [← hB']
    exact PySem.W.hideAll_get _ q fun z => hb (List.mem_singleton.mp z)
  have kb2 : B'.StaysIn h2 := fun b o q => (k2 b (bB b o q).2).trans (kb b o (bB b o q).1)
  have aC : a ≠ C := fun z => by rw [z, hCB] at ne; cases ne
  have ff2 : h2.FunFrames B' (X.env :: X.outer) := ff_at ff (fun c o hc ho => (k2 c fun z => cF (by rw [hs, ← z]; exact hc)).trans ho) fun c hc => bN c (ff.mem hc).1
  obtain ⟨oe, vs, T, oT, ts, he, hz, hd, hv1, hnT, hTe, hT, hdT, ht3⟩ := tz
  have TC : T ≠ C := fun z => by rw [z, hCB] at hnT; cases hnT
  have he2 := (k2 a aC).trans he
  have tz2 : HandSPX.TracedZ h2 B' a (Zc cls d) (rawInt X.env.locals) := ⟨oe, vs, T, oT, ts, he2, hz, hd, hv1, bN T hnT, hTe, (k2 T TC).trans hT, hdT, ht3⟩
  have nex : ∀ b, b ∉ X.ex := fun b hb => by rw [hex] at hb; cases hb
  have nst : ∀ b o, X.s_0.heap.get? b = some o → b ∉ X.fs → b ∉ frs X.stack := fun b o e hb hm => by
    rcases List.mem_cons.mp (I3.stkSub b hm) with z | z
    · have l1 := Heap.lt_size e
      have l2 := I3.ok.above
      rw [z] at l1
      exact absurd (Nat.lt_of_lt_of_le l1 l2) (Nat.lt_irrefl _)
    · exact hb z
  have sub : ∀ b, b ∈ X.fs → b ∈ frs X.stack := fun b hb => by
    obtain ⟨e, he, q⟩ := List.mem_filterMap.mp hb
    rw [hs]
    exact List.mem_filterMap.mpr ⟨e, List.mem_cons_of_mem _ he, q⟩
  have nfp : ∀ b o, X.s_0.heap.get? b = some o → b ∉ fp := fun b o e hb => by
    rcases (f3 b hb).2.2.2.1 with z | z
    · exact nex b z
    · exact absurd (Nat.lt_of_lt_of_le (Heap.lt_size e) z) (Nat.lt_irrefl _)
  have bC : ∀ b o, X.s_0.heap.get? b = some o → b ≠ C := fun b o e z => by
    obtain ⟨o', e3⟩ := I3.base.there b o e (nex b)
    exact absurd (Heap.lt_size e3) (by rw [z, hC]; exact Nat.lt_irrefl _)
  have hok2 : HOk X.prog X.w H' B' := fun b o q => (hok b o q).stay (fun c u hc r => bK c u r fun z => by
    rcases hc with hc | hc
    · rw [← hc, z, nC'] at q
      cases q
    · rw [z, nC'] at hc
      cases hc) (fun _ r => r) fun _ _ r => r
  unfold PySem.passOn
  refine wpAny_bind (wpAny_field he2 hd hv1 ?_)
  rw [if_neg (show ¬ ((Value.ref T == Value.none) = true) from by simp)]
  have fin : wpAny (model X.prog X.w) X.A (setFlight (.ref a) cenv.frame) (fun _ s4 => wpAny (model X.prog X.w) X.A (throw (.ref a) : Sem Value) (fun _ _ => False) X.xe s4) X.xe { s' with heap := h2 } := by
    refine HandSPX.setFlight_anyZ kb2 ff2 tz2 fun h4 k4 f4 t4 up4 => wpAny_throw ?_
    rw [hx]
    refine leave_any Zc.steady hfr hf k4 (bN a ne) f4 t4 fun h5 fl5 up5 => ?_
    refine ⟨a, B', H', cls, d, rfl, fl5, hok2, ⟨fun b o e n hb => ?_, fun b o e hb => ?_, fun b o e n => ?_, fun b o e hb => ?_, fun b xs e => ub.tups b xs (b5.tups b xs (I3.base.tups b xs e)), fun b o u e => ub.frzs b o u (b5.frzs b o u (I3.base.frzs b o u e)), fun b ps e => ?_⟩, na, os.trans (I5.os.trans I3.os), ag, hE⟩
    · exact bK b o (ub.keep b o (b5.keep b o (I3.base.keep b o e n hb (nex b)) (I3.base.free b o e n (nex b)) (nst b o e hb) (nfp b o e)) (b5.free b o (I3.base.keep b o e n hb (nex b)) (I3.base.free b o e n (nex b)) (nfp b o e)) (nst b o e hb)) (bC b o e)
    · obtain ⟨_, o0, e0, hnf⟩ := I3.ok.funs.mem hb
      rw [e] at e0
      cases e0
      have n0 := I3.ok.frf b hb
      obtain ⟨sl, e3⟩ := I3.base.slot b o e n0 hb (nex b)
      obtain ⟨sl2, e5⟩ := b5.slot b _ e3 (I3.base.free b o e n0 (nex b)) (sub b hb) (nfp b o e)
      obtain ⟨sl3, e6⟩ := ub.slot b _ e5 (sub b hb)
      obtain ⟨sl4, e7⟩ := up1 b _ e6 hnf
      obtain ⟨sl5, e8⟩ := up4 b _ ((k2 b (bC b o e)).trans e7) hnf
      obtain ⟨sl6, e9⟩ := up5 b _ e8 hnf
      exact ⟨sl6, e9⟩
    · obtain ⟨o3, e3⟩ := I3.base.there b o e (nex b)
      have n3 := I3.base.free b o e n (nex b)
      obtain ⟨o5, e5⟩ := b5.there b o3 e3 (nfp b o e)
      exact ub.free b o5 e5 (b5.free b o3 e3 n3 (nfp b o e))
    · obtain ⟨o3, e3⟩ := I3.base.there b o e (nex b)
      obtain ⟨o5, e5⟩ := b5.there b o3 e3 (nfp b o e)
      obtain ⟨oB, eB⟩ := ub.there b o5 e5 (nst b o e hb)
      exact ⟨oB, bK b oB eB (bC b o e)⟩
    · obtain ⟨m1, e1⟩ := I3.base.tbls b ps e
      obtain ⟨m2, e2⟩ := b5.tbls b _ e1
      obtain ⟨m3, e3⟩ := ub.tbls b _ e2
      exact ⟨m1 ++ (m2 ++ m3), by rw [e3, Array.append_assoc, Array.append_assoc]⟩
  first
    | exact wpAny_bind (wpAny_pure (wpAny_bind fin))
    | exact wpAny_bind fin
/-- [elt for target in iter], where a call of elt may raise what the def itself may raise -/
theorem pe_lcX {X : Cx} {elt tg iter : Expr} {scope : Scope} {own : List (Str × Nat)} {pos : Pos} {wi : TI} {g : TG} {te : TE} {E : XK} {E1 : Value → Shared → Prop} (hc : X.calm = true) (hN : X.N.Nodup)
    (hs : X.stack = X.env :: X.outer) (hf : X.env.frame = some X.env.locals) (hex : X.ex = []) (hx : X.xe = fun e s' => wpAny (model X.prog X.w) X.A (leaving X.env e) (fun _ s'' => CX X.prog X.w X.outer X.H_0 X.s_0 E e s'') E1 s')
    (hi : PI X tg iter wi) (ok : BlkOk X.N X.env.scope scope own)
    (hg : ∀ (s : Shared) (H : Hp) (C : Addr) (cl : List (Str × Addr)) (fp : List Addr), PG (X.blk s H scope (compEnvC scope cl C X.env) fp) tg g)
    (he : ∀ (s : Shared) (H : Hp) (C : Addr) (cl : List (Str × Addr)) (fp : List Addr) (xe : Value → Shared → Prop), (∀ (pins : List (Addr × Obj)) (σ : L2.St) (H1 : Hp) (s1 : Shared) (e : Value) (s' : Shared), Inv (X.blk s H scope (compEnvC scope cl C X.env) fp) pins σ H1 s1 → CX X.prog X.w X.stack H1 s1 E e s' → xe e s') →
      PE ((X.blk s H scope (compEnvC scope cl C X.env) fp).wish xe) elt te)
    (hfs : ∀ x, foldedSetIterable iter X.env x = pure x := by intro _; rfl) : PE X (.ListComp elt [⟨tg, iter, [], 0⟩] scope pos) (tLc wi g tYes te (own.map (·.2))) := by
  refine ⟨fun pins s σ H Q I h => ?_⟩
  rw [eval_ListComp]
  have clos : ∀ y ∈ scope.names, y.2 = .free → ∃ c, X.env.cells.lookup y.1 = some c := fun y hy e => (ok.free y hy e).elim (fun k => I.ok.has _ (.inl k)) (fun k => I.ok.has _ (.inr k))
  refine wpAny_comprehension_free (use := none) rfl hfs (closure_ok clos) ok.kind (fun y hy e => by rw [ok.uniq y hy, e]) (thn (hi.run pins s σ H _ I h) fun xv s1 h1 => thn h1 fun itv s2 h2 => ?_)
  obtain ⟨it, fp, tn, J, H2, rfl, I2, T, st2, f2, q⟩ := h2
  refine wpAny_newObj_type (newEnv_comp ?_) (by show 0 ≤ sizeLine; decide)
  generalize hD : s2.heap.objs.size = D
  obtain ⟨W, ⟨m0, w0⟩, turn⟩ := q D (I2.hok.fresh (Nat.le_of_eq hD))
  -- the list is laid
  generalize hs3 : ({ s2 with heap := s2.heap.push { cls := .type "list", data := .seq ([] : List Value).toArray } } : Shared) = s3
  have h3 : s3.heap = s2.heap.push { cls := .type "list", data := .seq ([] : List Value).toArray } := by rw [← hs3]
  have I3 : Inv X pins σ (upd H2 D (.lst [])) s3 := by
    rw [← hs3]
    exact I2.laid (t' := s2.toks) (fun b o e => Heap.get?_push_of_some _ e) (Nat.le_of_eq hD) ⟨Nat.zero_le _, [], 0, .nil, hD ▸ Heap.get?_push_size _ rfl⟩
  have old : ∀ b ∈ fp, b < s2.heap.objs.size := fun b hb => by
    obtain ⟨o, e, _⟩ := T.obj _ _ st2 b hb
    exact Heap.lt_size e
  have f3 : ∀ b ∈ fp, FpOk X pins (upd H2 D (.lst [])) b ∧ b < s3.heap.objs.size := fun b hb => by
    have lt := old b hb
    refine ⟨⟨?_, (f2 b hb).2⟩, by rw [h3, Heap.size_push]; exact Nat.lt_succ_of_lt lt⟩
    rw [upd_ne (by rw [← hD]; exact Nat.ne_of_lt lt)]
    exact (f2 b hb).1
  have st3 : tn 0 s3.heap := T.keep _ _ _ st2 fun b _ o e => by rw [h3]; exact Heap.get?_push_of_some _ e
  have I4 := block_start I3 ok hN f3
  generalize hcl : cellsFrom (s3.heap.objs.size + 1) scope.names (cloFrom X.env.cells scope.names []) = cl at I4 ⊢
  have pg := hg s3 (upd H2 D (.lst [])) s3.heap.objs.size cl fp
  have pe := he s3 (upd H2 D (.lst [])) s3.heap.objs.size cl fp
  have flies := @lcx_out X pins σ _ s3 I3 scope (compEnvC scope cl s3.heap.objs.size X.env) fp s3.heap.objs.size rfl rfl rfl (fun b hb => (f3 b hb).1) hs hf hex E E1 hx
  show codeAny _ _ (.compStart (.ListComp elt [⟨tg, iter, [], 0⟩] scope pos) 0 (.ref it) (.ref D) (compEnvC scope cl s3.heap.objs.size X.env)) (compPost (model X.prog X.w) X.A X.xe none (EP X pins σ Q) (.ref D) s3.heap.objs.size) { s3 with heap := pushCells (s3.heap.push { cls := .type "dict", data := .dict #[] }) scope.names }
  generalize hce : compEnvC scope cl s3.heap.objs.size X.env = ce at I4 pg pe flies ⊢
  have cL : ce.locals = s3.heap.objs.size := by rw [← hce]; rfl
  have none0 : ∀ b ∈ fp, (upd H2 D (.lst [])) b = none := fun b hb => (f3 b hb).1.1
  generalize hH3 : upd H2 D (.lst []) = H3 at I3 I4 pg pe flies w0 none0 f3
  generalize hs4 : ({ s3 with heap := pushCells (s3.heap.push { cls := .type "dict", data := .dict #[] }) scope.names } : Shared) = s4 at I4 ⊢
  have st4 : tn 0 s4.heap := T.keep _ _ _ st3 fun b _ o e => by rw [← hs4]; exact pushCells_keeps _ _ _ _ (Heap.get?_push_of_some _ e)
  have stand : ∀ {σ1 : L2.St} {H1 : Hp} {s1 : Shared}, Inv (X.blk s3 H3 scope ce fp) [] σ1 H1 s1 → (∀ b ∈ fp, H1 b = none) → ∀ b ∈ fp, FpOk (X.blk s3 H3 scope ce fp) [] H1 b := fun {σ1 H1 s1} J n b hb =>
    ⟨n b hb, (J.ok.exf b hb).1, J.ok.exfs b hb, .inl hb, fun x c e => (J.ok.exf b hb).2 x c e, fun p hp => absurd (show p ∈ ([] : List (Addr × Obj)) ++ [] from hp) (by simp)⟩
  have loop : codeAny (model X.prog X.w) X.A (.compLoop (.ListComp elt [⟨tg, iter, [], 0⟩] scope pos) 0 (.ref it) (.ref D) ce) (compPost (model X.prog X.w) X.A X.xe none (EP X pins σ Q) (.ref D) s3.heap.objs.size) s4 := by
    refine compLoop_any (fun n s' => ∃ i H', Inv (X.blk s3 H3 scope ce fp) [] (wipe σ (own.map (·.2))) H' s' ∧ tn i s'.heap ∧ (∀ b ∈ fp, H' b = none) ∧ W i n H') ?_ m0 ⟨0, H3, I4, st4, none0, w0⟩
    rintro n s5 ⟨i, H5, I5, st5, n5, w5⟩
    rcases turn i n H5 w5 with ⟨stop, fin⟩ | ⟨go, Nx, hNx, step⟩
    · refine thnF (T.done (X.blk s3 H3 scope ce fp) rfl rfl rfl hc i [] s5 _ H5 (fun _ _ => False) I5 (stand I5 n5) st5 stop) fun r s6 ⟨hr, I6⟩ => ?_
      subst hr
      have I7 : Inv X pins σ H5 s6 := I3.call' (ch := fp) I6.os I6.base I6.hok I6.bare fun b hb => ⟨(f3 b hb).1.2.2.2.1, (f3 b hb).1.2.1, (f3 b hb).1.2.2.2.2.1, (f3 b hb).1.2.2.2.2.2⟩
      have nC : H5 s3.heap.objs.size = none := by
        have z : H5 ce.locals = none := I6.free
        rwa [cL] at z
      obtain ⟨m, hn, _⟩ := I6.loc
      have hn : s6.heap.Ns ce.locals m := hn
      rw [cL] at hn
      obtain ⟨g0, g1, g2, g3, g4, g5⟩ := I3.fpOk (Nat.le_refl _) nC
      exact ⟨m, hn, fun h' sb => ⟨.ref D, H5, I7.turned (t' := s6.toks) (fun b o hb e => (sb.2 b hb).trans e) g0 g1 g3 g4 g5, rfl, fin⟩⟩
    · refine thnF (T.item (X.blk s3 H3 scope ce fp) rfl rfl rfl hc i [] s5 _ H5 (fun _ _ => False) I5 (stand I5 n5) st5 go) fun r s6 ⟨u, hr, h6⟩ => ?_
      subst hr
      refine thnF h6 fun _ s7 ⟨x, H7, I7, r7, y7, st7, n7⟩ => ?_
      refine thnF (pg.run _ s7 _ H7 x u _ (I7.pinned (stand I7 n7) (T.obj _ _ st7)) r7 (step x H7 y7)) fun _ s8 ⟨σ8, H8, I8, hw8, q8⟩ => ?_
      refine thnF ((pts_nil (X := X.blk s3 H3 scope ce fp)).run _ s8 σ8 H8 _ I8 q8) fun b s9 ⟨H9, I9, q9⟩ => ?_
      have back : ∀ {s' : Shared} {H' : Hp}, Inv (X.blk s3 H3 scope ce fp) ([] ++ pinsAt fp s7.heap) σ8 H' s' → Nx H' → ∃ m, m < n ∧ ∃ i H', Inv (X.blk s3 H3 scope ce fp) [] (wipe σ (own.map (·.2))) H' s' ∧ tn i s'.heap ∧ (∀ b ∈ fp, H' b = none) ∧ W i m H' := fun {s' H'} J nx => by
        obtain ⟨m', hm, w'⟩ := hNx H' nx
        have pin : ∀ b ∈ fp, ∀ o, s7.heap.get? b = some o → s'.heap.get? b = some o ∧ H' b = none := fun b hb o e => by
          have z := J.pin (b, o) (List.mem_append_right _ (List.mem_append_right _ (mem_pinsAt hb e)))
          exact ⟨z.1, z.2.1⟩
        refine ⟨m', hm, i + 1, H', (J.unpinned (pins := [])).weak (by rw [← hw8, wipe_length]) (fun j v e => ?_), T.keep _ _ _ st7 fun b hb o e => (pin b hb o e).1, fun b hb => ?_, w'⟩
        · rw [← hw8] at e
          exact (wipe_some e).1
        · obtain ⟨o, e, _⟩ := T.obj _ _ st7 b hb
          exact (pin b hb o e).2
      cases b with
      | false =>
        rw [if_neg Bool.false_ne_true] at q9 ⊢
        exact back I9 q9
      | true =>
        rw [if_pos rfl] at q9 ⊢
        have run := (pe (notedBy (model X.prog X.w) X.A ce fun e s' => compPost (model X.prog X.w) X.A X.xe none (EP X pins σ Q) (.ref D) s3.heap.objs.size (.error e) s') (fun _ _ _ _ _ _ J c => flies J c)).run _ s9 σ8 H9 _ (I9.wish _) q9
        refine wpAny_mono run (fun z s10 hz => ?_) (fun _ _ z => z)
        obtain ⟨yv, H10, I10, r10, acc, hD10, hz10, nx⟩ := hz
        exact app_ok (X := X.blk s3 H3 scope ce fp) I10.unwish hD10 hz10 r10 fun s11 I11 => back I11 nx
  exact codeAny_compStart_list loop (T.self X.A 0 _ _ _ st4 loop)
end N
/-! ### list(zip(two lists of one length)): a new list of new pairs -/
namespace N
open PySem PySem.Spec PyProof.Rows L2
theorem zip_nolen : typeLookup (.type "zip") "__len__" = pure none := by rw [typeLookup_type, builtinLookup_eq_fast]; kernel_rfl
theorem zip_nohint : typeLookup (.type "zip") "__length_hint__" = pure none := by rw [typeLookup_type, builtinLookup_eq_fast]; kernel_rfl
/-- the zip at turn i: its first tuple not yet given out, or one that is still there -/
def ZSt (h : Heap) (z TI TO i1 i2 l1 l2 S : Addr) (i : Nat) : Prop := IsPair h TI (.ref i1) (.ref i2) ∧ h.IsListIter i1 l1 i ∧ h.IsListIter i2 l2 i ∧
  ((IsZip h z TI TO .none ∧ ∃ a b, IsPair h TO a b) ∨ ∃ (T : Addr) (f : Bool) (oT : Obj), IsZipHeld h z TI TO T f ∧ h.get? T = some oT ∧ T ≠ z ∧ T ≠ i1 ∧ T ≠ i2 ∧ T ≠ S)
structure ZLow (z TI TO i1 i2 l1 l2 S : Addr) : Prop where
  z : z < S
  TI : TI < S
  TO : TO < S
  i1 : i1 < S
  i2 : i2 < S
  l1 : l1 < S
  l2 : l2 < S
theorem zlow {n a b : Nat} (la : a < n) (lb : b < n) : ZLow (n + 4) (n + 2) (n + 3) n (n + 1) a b (n + 5) := by
  have h1 : n + 4 < n + 5 := by omega
  have h2 : n + 2 < n + 5 := by omega
  have h3 : n + 3 < n + 5 := by omega
  have h4 : n < n + 5 := by omega
  have h5 : n + 1 < n + 5 := by omega
  have h6 : a < n + 5 := by omega
  have h7 : b < n + 5 := by omega
  exact ⟨h1, h2, h3, h4, h5, h6, h7⟩
theorem ZSt.keep {h h' : Heap} {z TI TO i1 i2 l1 l2 S : Addr} {i : Nat} (x : ZSt h z TI TO i1 i2 l1 l2 S i) (L : ZLow z TI TO i1 i2 l1 l2 S) (k : ∀ b o, b ≠ S → h.get? b = some o → h'.get? b = some o) : ZSt h' z TI TO i1 i2 l1 l2 S i := by
  obtain ⟨a, b, c, d⟩ := x
  refine ⟨k _ _ (Nat.ne_of_lt L.TI) a, b.at fun o e => k _ o (Nat.ne_of_lt L.i1) e, c.at fun o e => k _ o (Nat.ne_of_lt L.i2) e, ?_⟩
  rcases d with ⟨hz, u, v, hT⟩ | ⟨T, f, oT, hz, hT, r1, r2, r3, r4⟩
  · exact .inl ⟨k _ _ (Nat.ne_of_lt L.z) hz, u, v, k _ _ (Nat.ne_of_lt L.TO) hT⟩
  · exact .inr ⟨T, f, oT, k _ _ (Nat.ne_of_lt L.z) hz, k _ _ r4 hT, r1, r2, r3, r4⟩
/-- the pairs given out so far -/
structure ZG (xs ys : Array Value) (lo : Addr) (h : Heap) (as : List Addr) : Prop where
  rise : as.Pairwise (· < ·)
  above : ∀ a ∈ as, lo < a
  pairs : ∀ (j : Nat) (a : Addr), as[j]? = some a → ∃ x y, xs[j]? = some x ∧ ys[j]? = some y ∧ IsPair h a x y
theorem ZG.there {xs ys : Array Value} {lo : Addr} {h : Heap} {as : List Addr} (g : ZG xs ys lo h as) {a : Addr} (ha : a ∈ as) : a < h.objs.size := by
  obtain ⟨j, hj⟩ := List.mem_iff_getElem?.mp ha
  obtain ⟨_, _, _, _, e⟩ := g.pairs j a hj
  exact Heap.lt_size e
section
variable {prog : Program} {w : World} {A : Around} {E : Value → Shared → Prop} {s : Shared}
theorem zl_item {z TI TO i1 i2 l1 l2 S : Addr} {i : Nat} {xs ys : Array Value} {x y : Value} {Q : Option Value → Shared → Prop} (D : ZipApart z TI TO i1 i2 l1 l2) (hS : S < s.heap.objs.size) (st : ZSt s.heap z TI TO i1 i2 l1 l2 S i)
    (hl1 : s.heap.IsList l1 xs) (hl2 : s.heap.IsList l2 ys) (hx : xs[i]? = some x) (hy : ys[i]? = some y)
    (hQ : ∀ h', ZSt h' z TI TO i1 i2 l1 l2 S (i + 1) → IsPair h' s.heap.objs.size x y → (∀ c o, c ≠ z → c ≠ TO → c ≠ i1 → c ≠ i2 → s.heap.get? c = some o → h'.get? c = some o) → Q (some (.ref s.heap.objs.size)) { s with heap := h' }) :
    wpAny (model prog w) A (pyNext (.ref z)) Q E s := by
  obtain ⟨hTI, h1, h2, hz⟩ := st
  have lt : ∀ {c o}, s.heap.get? c = some o → s.heap.objs.size ≠ c := fun e => Nat.ne_of_gt (Heap.lt_size e)
  have n1 : s.heap.objs.size ≠ i1 := let ⟨_, e, _⟩ := h1; lt e
  have n2 : s.heap.objs.size ≠ i2 := let ⟨_, e, _⟩ := h2; lt e
  rcases hz with ⟨hz, a, b, hTO⟩ | ⟨T, f, oT, hz, hT, r1, r2, r3, r4⟩
  · exact wpAny_pyNext_zip_item D hz hTI hTO h1 h2 hl1 hl2 hx hy fun h' a1 a2 a3 a4 a5 a6 hk =>
      hQ h' ⟨hk _ _ D.TIz D.TITO D.TIi1 D.TIi2 hTI, a3, a4, .inr ⟨s.heap.objs.size, false, _, a1, a5, lt hz, n1, n2, Nat.ne_of_gt hS⟩⟩ a5 hk
  · exact wpAny_pyNext_zip_item_held D hz hT hTI h1 h2 hl1 hl2 hx hy fun h' a1 a3 a4 a5 a6 hk =>
      hQ h' ⟨hk _ _ D.TIz D.TIi1 D.TIi2 hTI, a3, a4, .inr ⟨T, true, oT, a1, hk _ _ r1 r2 r3 hT, r1, r2, r3, r4⟩⟩ a5 fun c o c1 _ c3 c4 e => hk c o c1 c3 c4 e
theorem zl_done {z TI TO i1 i2 l1 l2 S : Addr} {i : Nat} {xs ys : Array Value} {Q : Option Value → Shared → Prop} (hh : A.handled = none) (D : ZipApart z TI TO i1 i2 l1 l2) (st : ZSt s.heap z TI TO i1 i2 l1 l2 S i)
    (hl1 : s.heap.IsList l1 xs) (hl2 : s.heap.IsList l2 ys) (hx : xs[i]? = none)
    (hQ : ∀ h', (∀ c o, c ≠ z → c ≠ TO → c ≠ i1 → c ≠ i2 → s.heap.get? c = some o → h'.get? c = some o) → Q none { s with heap := h' }) :
    wpAny (model prog w) A (pyNext (.ref z)) Q E s := by
  obtain ⟨hTI, h1, h2, hz⟩ := st
  rcases hz with ⟨hz, a, b, hTO⟩ | ⟨T, f, oT, hz, hT, r1, r2, r3, r4⟩
  · exact wpAny_pyNext_zip_end hh D hz hTI hTO h1 h2 hl1 hl2 (.inl hx) hQ
  · exact wpAny_pyNext_zip_end_held hh D hz hT hTI h1 h2 hl1 hl2 (.inl hx) fun h' hk => hQ h' fun c o c1 _ c3 c4 e => hk c o c1 c3 c4 e
theorem zl_loop {R : Result → Shared → Prop} {z TI TO i1 i2 l1 l2 S : Addr} {xs ys : Array Value} {n : Nat} (hh : A.handled = none) (D : ZipApart z TI TO i1 i2 l1 l2) (L : ZLow z TI TO i1 i2 l1 l2 S) (hxn : xs.size = n) (hyn : ys.size = n) (hn : n ≤ sizeLine) (res : Value) {h₁ : Heap}
    (hR : ∀ h' tk acc c as, (∀ b o, b ≠ S → b ≠ z → b ≠ TO → b ≠ i1 → b ≠ i2 → h₁.get? b = some o → h'.get? b = some o) → h'.get? S = some { cls := .type "list", dict := none, data := .seq acc c, slots := #[] } → as.length = n → ZG xs ys S h' as → acc.toList = as.map Value.ref → R (.ok (.ret res)) { s with heap := h', toks := tk }) :
    ∀ (k i : Nat) (h : Heap) (tk c : Nat) (acc : Array Value) (as : List Addr), n - i = k → i ≤ n → ZSt h z TI TO i1 i2 l1 l2 S i → h.IsList l1 xs → h.IsList l2 ys → (∀ b o, b ≠ S → b ≠ z → b ≠ TO → b ≠ i1 → b ≠ i2 → h₁.get? b = some o → h.get? b = some o) →
      h.get? S = some { cls := .type "list", dict := none, data := .seq acc c, slots := #[] } → acc.toList = as.map Value.ref → as.length = i → ZG xs ys S h as →
      codeAny (model prog w) A (.builtin "list.extend.loop" ⟨[.ref S, .ref z, res], []⟩) R { s with heap := h, toks := tk } := by
  have nz := Ne.symm (Nat.ne_of_lt L.z)
  have nTO := Ne.symm (Nat.ne_of_lt L.TO)
  have ni1 := Ne.symm (Nat.ne_of_lt L.i1)
  have ni2 := Ne.symm (Nat.ne_of_lt L.i2)
  have up4 : ∀ {b : Addr}, S < b → b ≠ z ∧ b ≠ TO ∧ b ≠ i1 ∧ b ≠ i2 := fun {b} hb => ⟨Nat.ne_of_gt (Nat.lt_trans L.z hb), Nat.ne_of_gt (Nat.lt_trans L.TO hb), Nat.ne_of_gt (Nat.lt_trans L.i1 hb), Nat.ne_of_gt (Nat.lt_trans L.i2 hb)⟩
  intro k
  induction k with
  | zero =>
    intro i h tk c acc as hk hi hst hl1 hl2 hkeep hS hacc hal hG
    have hin : i = n := by omega
    refine codeAny_builtin PySem.F.entry_extend_loop ?_
    rw [Around.under_plainId PySem.F.plain_extend_loop _]
    show wpAny _ A.in1 (pyNext (.ref z) >>= _) _ _ _
    refine wpAny_bind (zl_done (s := { s with heap := h, toks := tk }) (A := A.in1) hh D hst hl1 hl2 (Array.getElem?_eq_none (by omega)) fun h' he => ?_)
    refine wpAny_pure (hR h' tk acc c as (fun b o a1 a2 a3 a4 a5 e => he b o a2 a3 a4 a5 (hkeep b o a1 a2 a3 a4 a5 e)) (he S _ nz nTO ni1 ni2 hS) (by omega) ⟨hG.rise, hG.above, fun j a hj => ?_⟩ hacc)
    obtain ⟨x, y, e1, e2, e3⟩ := hG.pairs j a hj
    obtain ⟨b1, b2, b3, b4⟩ := up4 (hG.above a (List.mem_of_getElem? hj))
    exact ⟨x, y, e1, e2, he a _ b1 b2 b3 b4 e3⟩
  | succ k ih =>
    intro i h tk c acc as hk hi hst hl1 hl2 hkeep hS hacc hal hG
    have hlt : i < n := by omega
    have hx : xs[i]? = some (xs[i]'(by omega)) := Array.getElem?_eq_getElem _
    have hy : ys[i]? = some (ys[i]'(by omega)) := Array.getElem?_eq_getElem _
    generalize xs[i]'(by omega) = x at hx
    generalize ys[i]'(by omega) = y at hy
    have hsz : acc.size = i := by rw [← Array.length_toList, hacc, List.length_map, hal]
    have hSl : S < h.objs.size := Heap.lt_size hS
    refine codeAny_builtin PySem.F.entry_extend_loop ?_
    rw [Around.under_plainId PySem.F.plain_extend_loop _]
    show wpAny _ A.in1 (pyNext (.ref z) >>= _) _ _ _
    refine wpAny_bind (zl_item (s := { s with heap := h, toks := tk }) (S := S) D hSl hst hl1 hl2 hx hy fun h' hst' ht hkp => ?_)
    dsimp only at ht hkp ⊢
    have hS' := hkp S _ nz nTO ni1 ni2 hS
    have up : ∀ b o, b ≠ S → h'.get? b = some o → (h'.update S (Obj.mapSeq (·.push (Value.ref h.objs.size)))).get? b = some o := fun b o hb e => (Heap.get?_update_other _ _ (Ne.symm hb)).trans e
    show wpAny _ A.in1 (updateSeq S (·.push (Value.ref h.objs.size)) >>= _) _ _ _
    refine wpAny_bind ?_
    refine wpAny_updateSeq hS' rfl (wpAny_pure ⟨plainId_quiet PySem.F.plain_extend_loop _, ih (i + 1) _ tk _ (acc.push (Value.ref h.objs.size)) (as ++ [h.objs.size]) (by omega) hlt (hst'.keep L up)
      (hl1.at fun o e => up _ o (Nat.ne_of_lt L.l1) (hkp _ o D.l1z D.l1TO D.l1i1 D.l1i2 e)) (hl2.at fun o e => up _ o (Nat.ne_of_lt L.l2) (hkp _ o D.l2z D.l2TO D.l2i1 D.l2i2 e))
      (fun b o a1 a2 a3 a4 a5 e => up b o a1 (hkp b o a2 a3 a4 a5 (hkeep b o a1 a2 a3 a4 a5 e))) (Heap.get?_update_self _ hS' rfl) (by rw [Array.toList_push, hacc, List.map_append]; rfl) (by rw [List.length_append, hal]; rfl) ⟨?_, ?_, ?_⟩⟩) (by rw [hsz]; omega) (by show (acc.push (Value.ref h.objs.size)).size ≤ sizeLine + 1; rw [Array.size_push, hsz]; omega)
    · refine List.pairwise_append.mpr ⟨hG.rise, List.pairwise_singleton _ _, fun a ha b hb => ?_⟩
      rw [List.mem_singleton.mp hb]
      exact hG.there ha
    · intro a ha
      rcases List.mem_append.mp ha with ha | ha
      · exact hG.above a ha
      · rw [List.mem_singleton.mp ha]; exact hSl
    · intro j b hj
      rcases Nat.lt_trichotomy j as.length with h1 | h1 | h1
      · rw [List.getElem?_append_left h1] at hj
        obtain ⟨x', y', e1, e2, e3⟩ := hG.pairs j b hj
        have hb := hG.above b (List.mem_of_getElem? hj)
        obtain ⟨b1, b2, b3, b4⟩ := up4 hb
        exact ⟨x', y', e1, e2, up b _ (Nat.ne_of_gt hb) (hkp b _ b1 b2 b3 b4 e3)⟩
      · subst h1
        have hb : h.objs.size = b := by simpa using hj
        subst hb
        exact ⟨x, y, by rw [hal]; exact hx, by rw [hal]; exact hy, up _ _ (Nat.ne_of_gt hSl) ht⟩
      · have hnone : (as ++ [h.objs.size])[j]? = none := List.getElem?_eq_none (by rw [List.length_append, List.length_singleton]; omega)
        rw [hnone] at hj
        cases hj
theorem zl_extend {R : Result → Shared → Prop} {z TI TO i1 i2 l1 l2 S : Addr} {xs ys : Array Value} {n c₀ : Nat} (hh : A.handled = none) (D : ZipApart z TI TO i1 i2 l1 l2) (L : ZLow z TI TO i1 i2 l1 l2 S) (hxn : xs.size = n) (hyn : ys.size = n) (hn : n ≤ sizeLine)
    (hst : ZSt s.heap z TI TO i1 i2 l1 l2 S 0) (hzz : IsZip s.heap z TI TO .none) (hl1 : s.heap.IsList l1 xs) (hl2 : s.heap.IsList l2 ys) (hS : s.heap.get? S = some { cls := .type "list", data := .seq #[] c₀ })
    (hR : ∀ h' tk acc c as, (∀ b o, b ≠ S → b ≠ z → b ≠ TO → b ≠ i1 → b ≠ i2 → s.heap.get? b = some o → h'.get? b = some o) → h'.get? S = some { cls := .type "list", dict := none, data := .seq acc c, slots := #[] } → as.length = n → ZG xs ys S h' as → acc.toList = as.map Value.ref → R (.ok (.ret .none)) { s with heap := h', toks := tk }) :
    wpAny (model prog w) A.in1 (Builtin.List.listExtendWith (.ref S) (.ref z) .none)
      (fun fin s' => match fin with | .done f => R (.ok f) s' | .again c' => c'.quiet = true ∧ codeAny (model prog w) A c' R s') (fun e s' => R (.error e) s') s := by
  have hT : s.TypeIs (.ref z) "zip" := ⟨_, hzz, rfl⟩
  have hSz : S ≠ z := Nat.ne_of_gt L.z
  unfold Builtin.List.listExtendWith
  refine wpAny_bind (wpAny_typeOf hT ?_)
  have h1 : Builtin.List.listSameRef (.ref S) (.ref z) = false := by simp [Builtin.List.listSameRef, hSz]
  have h2 : (Value.type "zip" == Value.type "list") = false := by decide
  have h3 : (Value.type "zip" == Value.type "tuple") = false := by decide
  simp only [h1, h2, h3, Bool.or_false, Bool.false_eq_true, if_false]
  refine wpAny_bind (wpAny_pyIter_zip hzz ?_)
  refine wpAny_bind (wpAny_holding ?_)
  unfold Builtin.List.listLengthHint
  refine wpAny_bind (wpAny_specialOf hT zip_nolen ?_)
  show wpAny _ A.in1 (specialOf (Value.ref z) (Str.ofString "__length_hint__") >>= _) _ _ _
  refine wpAny_bind (wpAny_specialOf hT zip_nohint ?_)
  refine wpAny_pure ?_
  show wpAny _ A.in1 (rule "list.extend.makes-room" >>= fun _ => Builtin.List.listTouch (.ref S) >>= fun _ => again (.builtin "list.extend.loop" ⟨[.ref S, .ref z, .none], []⟩)) _ _ _
  refine wpAny_bind (wpAny_rule ?_)
  refine wpAny_bind ?_
  show wpAny _ A.in1 (updateSeq S (·.push .none) >>= fun _ => updateSeq S (·.pop)) _ _ _
  refine wpAny_bind (wpAny_updateSeq hS rfl ?_)
  have hS₂ := Heap.get?_update_self (Obj.mapSeq (·.push Value.none)) hS rfl
  refine wpAny_updateSeq hS₂ rfl ?_
  have hS₃ := Heap.get?_update_self (Obj.mapSeq (·.pop)) hS₂ rfl
  have oth : ∀ b o, b ≠ S → s.heap.get? b = some o → ((s.heap.update S (Obj.mapSeq (·.push Value.none))).update S (Obj.mapSeq (·.pop))).get? b = some o :=
    fun b o hb e => (Heap.get?_update_other _ _ (Ne.symm hb)).trans ((Heap.get?_update_other _ _ (Ne.symm hb)).trans e)
  exact wpAny_pure ⟨plainId_quiet PySem.F.plain_extend_loop _, zl_loop (s := s) (h₁ := s.heap) hh D L hxn hyn hn .none hR n 0 _ s.toks _ #[] [] (Nat.sub_zero _) (Nat.zero_le _) (hst.keep L oth)
    (hl1.at fun o e => oth _ o (Nat.ne_of_lt L.l1) e) (hl2.at fun o e => oth _ o (Nat.ne_of_lt L.l2) e) (fun b o a1 _ _ _ _ e => oth b o a1 e) hS₃ rfl rfl ⟨List.Pairwise.nil, (fun _ ha => nomatch ha), (fun j a hj => by simp at hj)⟩⟩
theorem zl_init {R : Result → Shared → Prop} {z TI TO i1 i2 l1 l2 S : Addr} {xs ys : Array Value} {n : Nat} (hh : A.handled = none) (D : ZipApart z TI TO i1 i2 l1 l2) (L : ZLow z TI TO i1 i2 l1 l2 S) (hxn : xs.size = n) (hyn : ys.size = n) (hn : n ≤ sizeLine)
    (hst : ZSt s.heap z TI TO i1 i2 l1 l2 S 0) (hzz : IsZip s.heap z TI TO .none) (hl1 : s.heap.IsList l1 xs) (hl2 : s.heap.IsList l2 ys) (hS : s.heap.get? S = some { cls := .type "list", data := .seq #[] })
    (hR : ∀ h' tk acc c as, (∀ b o, b ≠ S → b ≠ z → b ≠ TO → b ≠ i1 → b ≠ i2 → s.heap.get? b = some o → h'.get? b = some o) → h'.get? S = some { cls := .type "list", dict := none, data := .seq acc c, slots := #[] } → as.length = n → ZG xs ys S h' as → acc.toList = as.map Value.ref → R (.ok (.ret .none)) { s with heap := h', toks := tk }) :
    wpAny (model prog w) A.in1 (Builtin.«list.__init__» ⟨[.ref S, .ref z], []⟩)
      (fun fin s' => match fin with | .done f => R (.ok f) s' | .again c' => c'.quiet = true ∧ codeAny (model prog w) A c' R s') (fun e s' => R (.error e) s') s := by
  show wpAny _ A.in1 (do let was ← Builtin.List.listItems (.ref S); Builtin.List.listUpdate (.ref S) (fun _ => #[]); letGo was.toList.reverse; Builtin.List.listExtendWith (.ref S) (.ref z) .none) _ _ s
  refine wpAny_bind ?_
  unfold Builtin.List.listItems
  refine wpAny_bind (wpAny_seqItems hS rfl (wpAny_pure ?_))
  show wpAny _ A.in1 (updateSeq S (fun _ => #[]) >>= fun _ => letGo (#[] : Array Value).toList.reverse >>= fun _ => Builtin.List.listExtendWith (.ref S) (.ref z) .none) _ _ s
  refine wpAny_bind (wpAny_updateSeq hS rfl ?_)
  have hS1 := Heap.get?_update_self (Obj.mapSeq (fun _ => (#[] : Array Value))) hS rfl
  have oth : ∀ b o, b ≠ S → s.heap.get? b = some o → (s.heap.update S (Obj.mapSeq (fun _ => (#[] : Array Value)))).get? b = some o := fun b o hb e => (Heap.get?_update_other _ _ (Ne.symm hb)).trans e
  refine wpAny_bind (wpAny_letGo ?_)
  exact zl_extend (s := { s with heap := s.heap.update S (Obj.mapSeq (fun _ => (#[] : Array Value))) }) hh D L hxn hyn hn (hst.keep L oth) (oth _ _ (Nat.ne_of_lt L.z) hzz) (hl1.at fun o e => oth _ o (Nat.ne_of_lt L.l1) e) (hl2.at fun o e => oth _ o (Nat.ne_of_lt L.l2) e) hS1
    fun h' tk acc c as hk hS' hl hG hacc => hR h' tk acc c as (fun b o a1 a2 a3 a4 a5 e => hk b o a1 a2 a3 a4 a5 (oth b o a1 e)) hS' hl hG hacc
theorem call_list_zip {z TI TO i1 i2 l1 l2 : Addr} {xs ys : Array Value} {n : Nat} {Q : Value → Shared → Prop} (hh : A.handled = none) (D : ZipApart z TI TO i1 i2 l1 l2) (L : ZLow z TI TO i1 i2 l1 l2 s.heap.objs.size) (hxn : xs.size = n) (hyn : ys.size = n) (hn : n ≤ sizeLine)
    (hTI : IsPair s.heap TI (.ref i1) (.ref i2)) (h1 : s.heap.IsListIter i1 l1 0) (h2 : s.heap.IsListIter i2 l2 0) (hzz : IsZip s.heap z TI TO .none) {ta tb : Value} (hTO : IsPair s.heap TO ta tb) (hl1 : s.heap.IsList l1 xs) (hl2 : s.heap.IsList l2 ys)
    (hQ : ∀ h' tk acc c as, (∀ b o, b ≠ z → b ≠ TO → b ≠ i1 → b ≠ i2 → s.heap.get? b = some o → h'.get? b = some o) → h'.get? s.heap.objs.size = some { cls := .type "list", dict := none, data := .seq acc c, slots := #[] } → as.length = n → ZG xs ys s.heap.objs.size h' as → acc.toList = as.map Value.ref → Q (.ref s.heap.objs.size) { s with heap := h', toks := tk }) :
    wpAny (model prog w) A (call (.type "list") [.ref z]) Q E s := by
  refine callType_codes (Q₁ := fun obj s₁ => obj = .ref s.heap.objs.size ∧ s₁ = { s with heap := s.heap.push { cls := .type "list", data := .seq #[] } }) PySem.F.called_list (PySem.F.typeCall_list_1 _) PySem.F.entry_list_init
    (code_list_new _ ⟨rfl, rfl⟩) fun obj s₁ h₁ => ?_
  obtain ⟨rfl, rfl⟩ := h₁
  have hS : (s.heap.push { cls := .type "list", data := .seq #[] }).get? s.heap.objs.size = some { cls := .type "list", data := .seq #[] } := Heap.get?_push_size _ rfl
  have pu : ∀ b o, s.heap.get? b = some o → (s.heap.push { cls := .type "list", data := .seq #[] }).get? b = some o := fun b o e => Heap.get?_push_of_some _ e
  refine ⟨⟨_, hS, rfl⟩, PySem.F.args_list_init_2 _ _, zl_init (s := { s with heap := s.heap.push { cls := .type "list", data := .seq #[] } }) (A := A.in1) hh D L hxn hyn hn ⟨pu _ _ hTI, h1.at fun o e => pu _ o e, h2.at fun o e => pu _ o e, .inl ⟨pu _ _ hzz, ta, tb, pu _ _ hTO⟩⟩ (pu _ _ hzz) (hl1.at fun o e => pu _ o e) (hl2.at fun o e => pu _ o e) hS
    (fun h' tk acc c as hk hS' hl hG hacc => ⟨rfl, hQ h' tk acc c as (fun b o a2 a3 a4 a5 e => hk b o (Nat.ne_of_lt (Heap.lt_size e)) a2 a3 a4 a5 (pu b o e)) hS' hl hG hacc⟩)⟩
end
/-- the pairs tracked at their addresses -/
def putP : Hp → List Addr → List (V × V) → Hp
  | H, a :: as, p :: ps => putP (upd H a (.tup [p.1, p.2])) as ps
  | H, _, _ => H
theorem putP_off {b : Addr} : ∀ (as : List Addr) (ps : List (V × V)) (H : Hp), b ∉ as → putP H as ps b = H b
  | [], _, _, _ => rfl
  | _ :: _, [], _, _ => rfl
  | a :: as, p :: ps, H, h => by
    show putP (upd H a (.tup [p.1, p.2])) as ps b = H b
    rw [putP_off as ps _ (fun z => h (List.mem_cons_of_mem _ z)), upd_ne (fun z => h (by rw [z]; exact List.mem_cons_self))]
theorem putP_at : ∀ (as : List Addr) (ps : List (V × V)) (H : Hp), as.length = ps.length → as.Nodup → Paired (fun (t : Addr) (p : V × V) => putP H as ps t = some (.tup [p.1, p.2])) as ps
  | [], [], _, _, _ => .nil
  | [], _ :: _, _, h, _ => by cases h
  | _ :: _, [], _, h, _ => by cases h
  | a :: as, p :: ps, H, h, hn => by
    have hn' := List.nodup_cons.mp hn
    refine .cons ?_ (putP_at as ps (upd H a (.tup [p.1, p.2])) (Nat.succ.inj h) hn'.2)
    show putP (upd H a (.tup [p.1, p.2])) as ps a = some (.tup [p.1, p.2])
    rw [putP_off as ps _ hn'.1, upd_same]
/-- what is asked: two lists of one length, read; what is told: a new list of new pairs -/
def tListZip (K : PySem.W.Frag) (ta : TA) : TE := fun σ H Q => ta σ H fun vs H1 => ∃ (a b : Addr) (xs ys : List V), vs = [.ref a, .ref b] ∧ SqL K H1 a xs ∧ SqL K H1 b ys ∧ xs.length = ys.length ∧
  ∀ (H' : Hp) (p : Addr) (ts : List Addr), Same H1 H' → H1 p = none → (∀ t ∈ ts, H1 t = none) → p ∉ ts → H' p = some (.lst (ts.map V.ref)) → Paired (fun (t : Addr) (q : V × V) => H' t = some (.tup [q.1, q.2])) ts (xs.zip ys) → Q (.ref p) H'
theorem zip_laid {X : Cx} {pins : List (Addr × Obj)} {σ : L2.St} {H : Hp} {s : Shared} {h' : Heap} {tk : Nat} {xs ys : List V} {us ws : List Value} {acc : Array Value} {c : Nat} {as ch : List Addr} (I : Inv X pins σ H s) (hz : xs.length ≤ sizeLine) (hxy : xs.length = ys.length) (rx : Vals xs us) (ry : Vals ys ws)
    (hk : ∀ b o, b ∉ ch → s.heap.get? b = some o → h'.get? b = some o) (hf : ∀ b ∈ ch, FpOk X pins H b) (hch : ∀ b ∈ ch, b < s.heap.objs.size) (hS : h'.get? s.heap.objs.size = some { cls := .type "list", dict := none, data := .seq acc c, slots := #[] }) (hl : as.length = xs.length) (hG : ZG us.toArray ws.toArray s.heap.objs.size h' as) (hacc : acc.toList = as.map Value.ref) :
    ∃ H' : Hp, Same H H' ∧ H s.heap.objs.size = none ∧ (∀ t ∈ as, H t = none) ∧ s.heap.objs.size ∉ as ∧ H' s.heap.objs.size = some (.lst (as.map V.ref)) ∧ Paired (fun (t : Addr) (q : V × V) => H' t = some (.tup [q.1, q.2])) as (xs.zip ys) ∧ Inv X pins σ H' { s with heap := h', toks := tk } := by
  have hSn : s.heap.objs.size ∉ as := fun z => Nat.lt_irrefl _ (hG.above _ z)
  have nd : as.Nodup := List.Pairwise.imp (fun {a b} (h : a < b) => Nat.ne_of_lt h) hG.rise
  have new : ∀ t ∈ as, H t = none := fun t ht => I.hok.fresh (Nat.le_of_lt (hG.above t ht))
  have newS : H s.heap.objs.size = none := I.hok.fresh (Nat.le_refl _)
  have hlz : as.length = (xs.zip ys).length := by rw [List.length_zip, hl, ← hxy, Nat.min_self]
  have atP := putP_at as (xs.zip ys) (upd H s.heap.objs.size (.lst (as.map V.ref))) hlz nd
  have off : ∀ b, b ∉ as → b ≠ s.heap.objs.size → putP (upd H s.heap.objs.size (.lst (as.map V.ref))) as (xs.zip ys) b = H b := fun b h1 h2 => by rw [putP_off as _ _ h1, upd_ne h2]
  have low : ∀ b o, s.heap.get? b = some o → b ∉ as ∧ b ≠ s.heap.objs.size := fun b o e => ⟨fun z => absurd (Heap.lt_size e) (Nat.not_lt.mpr (Nat.le_of_lt (hG.above b z))), Nat.ne_of_lt (Heap.lt_size e)⟩
  have kp : ∀ b u, H b = some u → (putP (upd H s.heap.objs.size (.lst (as.map V.ref))) as (xs.zip ys)) b = some u := fun b u e => by
    rw [off b (fun z => by rw [new b z] at e; cases e) (fun z => by rw [z, newS] at e; cases e)]
    exact e
  have eS : putP (upd H s.heap.objs.size (.lst (as.map V.ref))) as (xs.zip ys) s.heap.objs.size = some (.lst (as.map V.ref)) := by rw [putP_off as _ _ hSn, upd_same]
  refine ⟨putP (upd H s.heap.objs.size (.lst (as.map V.ref))) as (xs.zip ys), kp, newS, new, hSn, eS, atP, ?_⟩
  have nit : ∀ b u, H b = some u → b ∉ ch := fun b u e z => by
    have q := (hf b z).1
    rw [q] at e
    cases e
  refine I.step (g' := s.gens) (d' := s.drawn) (ch := ch) (fun b hb => ⟨(hf b hb).2.2.2.1, (hf b hb).2.1, (hf b hb).2.2.2.2.1, (hf b hb).2.2.2.2.2⟩) (fun b o _ _ hc e _ => hk b o hc e) (fun b o _ _ hc e _ => ⟨o.slots, hk b o hc e⟩)
    (fun b o _ e n => ?_) (fun b o hc e => ⟨o, hk b o hc e⟩) (fun b xs e => kp b _ e) (fun b o u e => kp b _ e) (fun b ps e => ⟨#[], by rw [kp b _ e]; simp⟩) (fun m hm => ?_) (fun b u q => ?_) I.bare
  · obtain ⟨z1, z2⟩ := low b o e
    rw [off b z1 z2]
    exact n
  · obtain ⟨o, es, ep, ho, r⟩ := hm
    exact ⟨o, es, ep, hk _ o (fun z => (hf _ z).2.1 rfl) ho, r⟩
  · by_cases hb : b ∈ as
    · obtain ⟨j, pk, e1, e2, e3⟩ := LiI.paired_ix atP hb
      rw [e3] at q
      cases q
      obtain ⟨x, y, f1, f2, f3⟩ := hG.pairs j b e1
      obtain ⟨g1, g2⟩ := List.getElem?_zip_eq_some.mp e2
      obtain ⟨x', hx', ru⟩ := rx.get g1
      obtain ⟨y', hy', ru2⟩ := ry.get g2
      rw [List.getElem?_toArray, hx'] at f1
      rw [List.getElem?_toArray, hy'] at f2
      cases f1
      cases f2
      exact ⟨by show 2 ≤ sizeLine; decide, [x, y], .cons ru (.cons ru2 .nil), ⟨_, f3, rfl, _, rfl⟩⟩
    · by_cases hb2 : b = s.heap.objs.size
      · rw [hb2] at q ⊢
        rw [eS] at q
        cases q
        refine ⟨by rw [List.length_map]; omega, acc.toList, c, by rw [hacc]; exact LiI.vals_refs as, ?_⟩
        rw [Array.toArray_toList]
        exact hS
      · rw [off b hb hb2] at q
        refine (I.hok b u q).stay (fun d v hc y => hk d v ?_ y) (fun d y => kp d _ y) fun d xs y => kp d _ y
        rcases hc with z | z
        · rw [z]; exact nit b u q
        · exact nit d _ z
section
variable {X : Cx}
theorem pe_listZip {e e2 : Expr} {ta : TA} {p p2 pos pos2 : Pos} (hc : X.calm = true) (hg : Gl X "list") (hm : X.mg "list" = none) (hg2 : Gl X "zip") (hm2 : X.mg "zip" = none) (ha : PA X [e, e2] ta)
    (hs : starEach [.Call (.Name "zip" p2) [e, e2] [] pos2] X.env = (false, eval (.Call (.Name "zip" p2) [e, e2] [] pos2) X.env) :: starEach [] X.env := by rfl)
    (hs2 : starEach [e, e2] X.env = (false, eval e X.env) :: starEach [e2] X.env := by rfl) (hpl : (backTo pos2 (starEach [e2] X.env)).any (·.1) = false := by rfl) :
    PE X (.Call (.Name "list" p) [.Call (.Name "zip" p2) [e, e2] [] pos2] [] pos) (tListZip X.K ta) := by
  refine ⟨fun pins s σ H Q I h => ?_⟩
  refine Call_ (ld_blt I hg hm boot_list (PyProof.Rows.callWith_type1 (args_cons (Call_ (ld_blt I hg2 hm2 PyProof.Rows.boot_zip (PyProof.Rows.callWith_type1 (thn (ha.run pos2 pins s σ H _ I h) fun us s1 ⟨vs, H1, I1, r1, q1⟩ => ?_) hs2 hpl))) hs) hs rfl))
  obtain ⟨a, b, xs, ys, ex, hqx, hqy, hxy, q⟩ := q1
  subst ex
  cases r1 with
  | cons r rr =>
    cases rr with
    | cons r' rr =>
      cases rr
      cases r
      cases r'
      obtain ⟨its, rv, p1, hz1⟩ := I1.list hqx
      obtain ⟨its2, rv2, p2', hz2⟩ := I1.list hqy
      have fresh5 : ∀ c, c ∈ [s1.heap.objs.size + 4, s1.heap.objs.size + 2, s1.heap.objs.size + 3, s1.heap.objs.size, s1.heap.objs.size + 1] → s1.heap.objs.size ≤ c ∧ c < s1.heap.objs.size + 5 := fun c hcm => by
        have e' : c = s1.heap.objs.size + 4 ∨ c = s1.heap.objs.size + 2 ∨ c = s1.heap.objs.size + 3 ∨ c = s1.heap.objs.size ∨ c = s1.heap.objs.size + 1 := by simpa using hcm
        omega
      refine call_zip_2 p1.isList p2'.isList fun h' hz hTI hTO h1 h2 hsz hk => args_nil ?_
      have I2 : Inv X pins σ H1 { s1 with heap := h' } := I1.kept (t' := s1.toks) hk
      have D := PySem.W.ktu_apart s1.heap.objs.size a b p1.lt p2'.lt
      have L : ZLow (s1.heap.objs.size + 4) (s1.heap.objs.size + 2) (s1.heap.objs.size + 3) s1.heap.objs.size (s1.heap.objs.size + 1) a b h'.objs.size := by
        rw [hsz]
        exact zlow p1.lt p2'.lt
      have l1 := rv.length
      have l2 := rv2.length
      refine call_list_zip (s := { s1 with heap := h' }) (n := xs.length) (I1.ok.hd hc) D L (by rw [List.size_toArray]; omega) (by rw [List.size_toArray]; omega) hz1 hTI h1 h2 hz hTO (p1.isList.at fun o e => hk _ o e) (p2'.isList.at fun o e => hk _ o e) fun h2' tk acc c as hk2 hS hl hG hacc => ?_
      obtain ⟨H', k1, k2, k3, k4, k5, k6, J⟩ := zip_laid (tk := tk) (ch := [s1.heap.objs.size + 4, s1.heap.objs.size + 2, s1.heap.objs.size + 3, s1.heap.objs.size, s1.heap.objs.size + 1]) I2 hz1 hxy rv rv2
        (fun c o hc e => hk2 c o (fun z => hc (by simp [z])) (fun z => hc (by simp [z])) (fun z => hc (by simp [z])) (fun z => hc (by simp [z])) e)
        (fun c hc => I1.fpOk (fresh5 c hc).1 (I1.hok.fresh (fresh5 c hc).1)) (fun c hc => by show c < h'.objs.size; rw [hsz]; exact (fresh5 c hc).2) hS hl hG hacc
      exact ⟨.ref _, H', J, rfl, q H' _ as k1 k2 k3 k4 k5 k6⟩
end
end N
/-! ### Plain Lean: a text's places, blanks, digits -/
namespace N
/-- how many at the head fulfil p -/
def runLen {α : Type} (p : α → Bool) (l : List α) : Nat := (l.takeWhile p).length
theorem runLen_le {α : Type} (p : α → Bool) : ∀ l : List α, runLen p l ≤ l.length
  | [] => Nat.le_refl _
  | a :: l => by
    unfold runLen
    by_cases h : p a = true
    · rw [List.takeWhile_cons_of_pos h]
      exact Nat.succ_le_succ (runLen_le p l)
    · rw [List.takeWhile_cons_of_neg h]
      exact Nat.zero_le _
/-- i at the head do, the next one doesn't -/
theorem runLen_stop {α : Type} (p : α → Bool) : ∀ (l : List α) (i : Nat) (x : α), (∀ j y, j < i → l[j]? = some y → p y = true) → l[i]? = some x → p x = false → runLen p l = i
  | [], i, x, _, h, _ => by simp at h
  | a :: l, 0, x, _, h, hx => by
    have e : a = x := Option.some.inj h
    subst e
    unfold runLen
    rw [List.takeWhile_cons_of_neg (by rw [hx]; exact Bool.false_ne_true)]
    rfl
  | a :: l, i + 1, x, ha, h, hx => by
    have h0 : p a = true := ha 0 a (Nat.succ_pos _) rfl
    have ih := runLen_stop p l i x (fun j y hj e => ha (j + 1) y (Nat.succ_lt_succ hj) e) h hx
    unfold runLen at ih ⊢
    rw [List.takeWhile_cons_of_pos h0, List.length_cons, ih]
theorem runLen_all {α : Type} (p : α → Bool) : ∀ (l : List α), (∀ j y, j < l.length → l[j]? = some y → p y = true) → runLen p l = l.length
  | [], _ => rfl
  | a :: l, ha => by
    have h0 : p a = true := ha 0 a (Nat.succ_pos _) rfl
    have ih := runLen_all p l fun j y hj e => ha (j + 1) y (Nat.succ_lt_succ hj) e
    unfold runLen at ih ⊢
    rw [List.takeWhile_cons_of_pos h0, List.length_cons, List.length_cons, ih]
def isBlank (c : Nat) : Bool := c == 32 || (c == 9 || (c == 10 || c == 13))
def isDigit (c : Nat) : Bool := decide (48 ≤ c ∧ c ≤ 57)
/-- the number that digits tell, held at most at 10^18 + 1 -/
def held (n : Int) : Int := if 1000000000000000001 < n then 1000000000000000001 else n
def heldNum (l : List Nat) : Int := l.foldl (fun (n : Int) (c : Nat) => held (n * 10 + (c : Int) - 48)) 0
end N
namespace N
open PySem L2
def top (i : Nat) : Stmt := PySem.Challenge.pw_nestarray_s18_pervade.main.body.getD i (.Pass ⟨0, 0, 0, 0⟩)
abbrev sRefusalInit : Stmt := inClass (top 7) 0
abbrev sArrInit : Stmt := inClass (top 14) 0
abbrev sMake : Stmt := top 15
abbrev sIsNumber : Stmt := top 16
abbrev sExtentsOf : Stmt := top 17
abbrev sMembersOf : Stmt := top 18
abbrev sRankOf : Stmt := top 19
abbrev sProduct : Stmt := top 20
abbrev sIsShape : Stmt := top 21
abbrev sWithinBounds : Stmt := top 22
abbrev sBounded : Stmt := top 23
abbrev sWalk : Stmt := top 24
abbrev sDeepest : Stmt := top 25
abbrev sWithinLimits : Stmt := top 26
abbrev sAllShapes : Stmt := top 27
abbrev sComeOut : Stmt := top 28
abbrev sTokenInit : Stmt := inClass (top 46) 0
abbrev sSkipBlanks : Stmt := top 47
abbrev sDigitsEnd : Stmt := top 48
abbrev sDigitsNumber : Stmt := top 49
abbrev sGoodDigits : Stmt := top 50
abbrev sReadNumber : Stmt := top 51
abbrev sReadToken : Stmt := top 52
abbrev sStateAfterNumber : Stmt := top 53
abbrev sStateAfterClosing : Stmt := top 54
abbrev sAdvance : Stmt := top 55
abbrev sScan : Stmt := top 56
abbrev sLookLong : Stmt := top 60
abbrev sLook : Stmt := top 61
abbrev sClose : Stmt := top 62
abbrev sBuild : Stmt := top 63
abbrev sDigits : Stmt := top 64
abbrev sNumberText : Stmt := top 65
abbrev sExtentsText : Stmt := top 66
abbrev sValueText : Stmt := top 67
abbrev sValueAnswer : Stmt := top 68
abbrev sLookKind : Stmt := top 70
abbrev sTwoNumbers : Stmt := top 71
abbrev sSharedExtents : Stmt := top 72
abbrev sSpread : Stmt := top 73
abbrev sDownTwo : Stmt := top 74
abbrev sPervade : Stmt := top 76
end N
namespace N
open PySem L2
/-- the values of a text -/
def Bs (t : List Nat) : List V := t.map fun (n : Nat) => V.int (n : Int)
theorem Bs_map (t : List Nat) : (t.map fun (n : Nat) => (n : Int)).map V.int = Bs t := by
  rw [List.map_map]
  rfl
theorem Bs_len (t : List Nat) : (Bs t).length = t.length := List.length_map _
theorem Bs_at {t : List Nat} {i : Nat} {c : Nat} (h : t[i]? = some c) : (Bs t)[i]? = some (.int (c : Int)) := by
  unfold Bs
  rw [List.getElem?_map, h]
  rfl
theorem Bs_atI {t : List Nat} {i : Int} {c : Nat} (h0 : 0 ≤ i) (h : t[i.toNat]? = some c) : atI (Bs t) i = some (.int (c : Int)) := by
  have e : i = ((i.toNat : Nat) : Int) := by omega
  rw [e]
  exact atI_nat (Bs_at h)
theorem Bs_get {t : List Nat} {i : Nat} {y : V} (h : (Bs t)[i]? = some y) : ∃ n, t[i]? = some n ∧ y = .int (n : Int) := by
  unfold Bs at h
  rw [List.getElem?_map] at h
  cases e : t[i]? with
  | none =>
    rw [e] at h
    cases h
  | some n =>
    rw [e] at h
    exact ⟨n, rfl, (Option.some.inj h).symm⟩
theorem eqV_nat (c k : Nat) : eqV (.int (k : Int)) (.int (c : Int)) = (c == k) := by
  show ((k : Int) == (c : Int)) = (c == k)
  by_cases h : c = k
  · subst h
    rw [beq_self_eq_true, beq_self_eq_true]
  · rw [beq_eq_false_iff_ne.mpr h, beq_eq_false_iff_ne.mpr (fun z => h (Int.ofNat_inj.mp z.symm))]
theorem blank_in (c : Nat) : inV (.int (c : Int)) (([32, 9, 10, 13] : List Int).map V.int) = isBlank c := by
  show (eqV (.int ((32 : Nat) : Int)) (.int (c : Int)) || (eqV (.int ((9 : Nat) : Int)) (.int (c : Int)) || (eqV (.int ((10 : Nat) : Int)) (.int (c : Int)) || (eqV (.int ((13 : Nat) : Int)) (.int (c : Int)) || false)))) = _
  rw [eqV_nat, eqV_nat, eqV_nat, eqV_nat, Bool.or_false]
  rfl
theorem sign_in (c : Nat) : inV (.int (c : Int)) (([91, 58, 93] : List Int).map V.int) = (c == 91 || (c == 58 || c == 93)) := by
  show (eqV (.int ((91 : Nat) : Int)) (.int (c : Int)) || (eqV (.int ((58 : Nat) : Int)) (.int (c : Int)) || (eqV (.int ((93 : Nat) : Int)) (.int (c : Int)) || false))) = _
  rw [eqV_nat, eqV_nat, eqV_nat, Bool.or_false]
theorem at_shift {t : List Nat} {k i : Nat} (h : k + i < t.length) : t[((k : Int) + (i : Int)).toNat]? = some t[k + i] ∧ (t.drop k)[i]? = some t[k + i] := by
  refine ⟨?_, ?_⟩
  · rw [show ((k : Int) + (i : Int)).toNat = k + i by omega]
    exact List.getElem?_eq_getElem h
  · rw [List.getElem?_drop]
    exact List.getElem?_eq_getElem h
theorem all_more {α : Type} {p : α → Bool} {l : List α} {i : Nat} {x : α} (h : l[i]? = some x) (hx : p x = true) (ha : ∀ j y, j < i → l[j]? = some y → p y = true) : ∀ j y, j < i + 1 → l[j]? = some y → p y = true := fun j y hj e => by
  by_cases z : j = i
  · subst z
    rw [h] at e
    rw [← Option.some.inj e]
    exact hx
  · exact ha j y (by omega) e
theorem take_more {α : Type} : ∀ {l : List α} {i : Nat} {x : α}, l[i]? = some x → l.take (i + 1) = l.take i ++ [x]
  | [], i, x, h => by simp at h
  | a :: l, 0, x, h => by
    have e : a = x := Option.some.inj h
    subst e
    rfl
  | a :: l, i + 1, x, h => by
    have ih := take_more (l := l) (i := i) (x := x) h
    show a :: l.take (i + 1) = a :: l.take i ++ [x]
    rw [ih]
    rfl
theorem heldNum_more {l : List Nat} {i : Nat} {c : Nat} (h : l[i]? = some c) : heldNum (l.take (i + 1)) = held (heldNum (l.take i) * 10 + (c : Int) - 48) := by
  rw [take_more h]
  unfold heldNum
  rw [List.foldl_append]
  rfl
theorem held_bounds {n : Int} (h : 0 ≤ n) : 0 ≤ held n ∧ held n ≤ 1000000000000000001 := by
  unfold held
  split <;> omega
theorem heldNum_go : ∀ (l : List Nat) (n : Int), (∀ c ∈ l, isDigit c = true) → 0 ≤ n ∧ n ≤ 1000000000000000001 → 0 ≤ l.foldl (fun (n : Int) (c : Nat) => held (n * 10 + (c : Int) - 48)) n ∧ l.foldl (fun (n : Int) (c : Nat) => held (n * 10 + (c : Int) - 48)) n ≤ 1000000000000000001
  | [], _, _, h => h
  | c :: l, n, hd, h => by
    have hc : 48 ≤ c ∧ c ≤ 57 := of_decide_eq_true (hd c List.mem_cons_self)
    exact heldNum_go l _ (fun x hx => hd x (List.mem_cons_of_mem _ hx)) (held_bounds (by omega))
theorem heldNum_bounds (l : List Nat) (hd : ∀ c ∈ l, isDigit c = true) : 0 ≤ heldNum l ∧ heldNum l ≤ 1000000000000000001 := heldNum_go l 0 hd ⟨by omega, by omega⟩
end N
namespace N
open PySem L2
/-- skip_blanks(text, at) -/
def spSkip (K : PySem.W.Frag) : Sp := fun vs H Q _ => ∃ (a : Addr) (t : List Nat) (k : Nat), vs = [.ref a, .int (k : Int)] ∧ SqL K H a (Bs t) ∧ t.length ≤ 100000 ∧ k ≤ t.length ∧ Q (.int ((k + runLen isBlank (t.drop k) : Nat) : Int)) H
section
variable {P : Program} {w : World} {K : PySem.W.Frag} {mg : Str → Option Value} {base : Heap}
theorem sc_skip_blanks : FnScope ["text", "at", "place"] ["text", "at"] (defScope sSkipBlanks) := ⟨rfl, rfl, rfl, by decide +kernel, rfl, by decide +kernel, by decide +kernel⟩
theorem ok_skip_blanks (T : Top1 K mg "skip_blanks" sSkipBlanks ["text", "at"]) (c_BLANKS : CT K mg "BLANKS" [32, 9, 10, 13]) (b_len : mg "len" = none) (b_range : mg "range" = none) : Def P w K mg base CX0 "skip_blanks" 1 ["text", "at"] (spSkip K) := by
  refine T.ok sc_skip_blanks (fun vs H Q E h => ?_) (fun f cdv A outer s H vs Q E hr h => ?_)
  · obtain ⟨a, t, k, rfl, _⟩ := h
    rfl
  obtain ⟨a, t, k, rfl, hS, hz, hk, q⟩ := h
  refine ⟨_, (pss_cons (ps_for PassesOwn.never rfl (pi_range2 rfl b_range (pa_cons (pv 1) (pa_cons (pe_callB call_len_seq (by rfl) b_len (by decide +kernel) (pa_cons (pv 0) pa_nil)) pa_nil))) (pg_name (i := 2) sc_skip_blanks.nd rfl (Or.inl rfl)) (pss_one (ps_if (pt_cmpR op_notIn_seq (pe_ix ix_list (pv 0) (pv 2) (fun _ _ => rfl)) (pe_ct c_BLANKS) rfl) (pss_one (ps_ret (pv 2))) pss_nil))) (pss_one (ps_ret (pe_callB call_len_seq (by rfl) b_len (by decide +kernel) (pa_cons (pv 0) pa_nil))))), ?_⟩
  refine ⟨_, rfl, _, rfl, a, _, rfl, .inl hS, (k : Int), ((Bs t).length : Int), rfl, ?_, ?_⟩
  · rw [Bs_len]
    omega
  rw [Bs_len]
  refine for_range (lo := (k : Int)) (n := ((t.length : Int) - (k : Int)).toNat) (fun i σ H' => H' = H ∧ (∃ v, σ = [some (.ref a), some (.int (k : Int)), v]) ∧ ∀ j y, j < i → (t.drop k)[j]? = some y → isBlank y = true) ⟨rfl, ⟨none, rfl⟩, fun j y hj => absurd hj (Nat.not_lt_zero _)⟩ ?_ ?_
  · rintro i σ H' hi ⟨rfl, ⟨v, rfl⟩, hb⟩
    have hlt : k + i < t.length := by omega
    obtain ⟨hc, hd⟩ := at_shift hlt
    refine ⟨_, rfl, _, rfl, a, _, _, _, rfl, rfl, hS, Bs_atI (by omega) hc, fun b hT => ?_⟩
    refine ⟨b, _, rfl, .inr (hT _), rfl, rfl, _, rfl, ?_⟩
    rw [blank_in]
    show if (!isBlank t[k + i]) = true then _ else _
    cases hx : isBlank t[k + i] with
    | false =>
      refine iteT ⟨_, rfl, ?_⟩
      have e := runLen_stop isBlank (t.drop k) i _ hb hd hx
      rw [e] at q
      rw [show (k : Int) + (i : Int) = ((k + i : Nat) : Int) by omega]
      exact q
    | true => exact iteF ⟨rfl, ⟨_, rfl⟩, all_more hd hx hb⟩
  · rintro σ H' ⟨rfl, ⟨v, rfl⟩, hb⟩
    refine ⟨_, rfl, a, _, rfl, .inl hS, ?_⟩
    have e := runLen_all isBlank (t.drop k) fun j y hj e => hb j y (by rw [List.length_drop] at hj; omega) e
    rw [e, List.length_drop] at q
    rw [Bs_len]
    rw [show k + (t.length - k) = t.length by omega] at q
    exact q
end
end N
namespace N
open PySem L2
/-- digits_end(text, at) -/
def spDigEnd (K : PySem.W.Frag) : Sp := fun vs H Q _ => ∃ (a : Addr) (t : List Nat) (k : Nat), vs = [.ref a, .int (k : Int)] ∧ SqL K H a (Bs t) ∧ t.length ≤ 100000 ∧ k ≤ t.length ∧ Q (.int ((k + runLen isDigit (t.drop k) : Nat) : Int)) H
section
variable {P : Program} {w : World} {K : PySem.W.Frag} {mg : Str → Option Value} {base : Heap}
theorem sc_digits_end : FnScope ["text", "at", "place"] ["text", "at"] (defScope sDigitsEnd) := ⟨rfl, rfl, rfl, by decide +kernel, rfl, by decide +kernel, by decide +kernel⟩
theorem ok_digits_end (T : Top1 K mg "digits_end" sDigitsEnd ["text", "at"]) (c_NINE : CI mg "NINE" 57) (c_ZERO : CI mg "ZERO" 48) (b_len : mg "len" = none) (b_range : mg "range" = none) : Def P w K mg base CX0 "digits_end" 1 ["text", "at"] (spDigEnd K) := by
  refine T.ok sc_digits_end (fun vs H Q E h => ?_) (fun f cdv A outer s H vs Q E hr h => ?_)
  · obtain ⟨a, t, k, rfl, _⟩ := h
    rfl
  obtain ⟨a, t, k, rfl, hS, hz, hk, q⟩ := h
  refine ⟨_, (pss_cons (ps_for PassesOwn.never rfl (pi_range2 rfl b_range (pa_cons (pv 1) (pa_cons (pe_callB call_len_seq (by rfl) b_len (by decide +kernel) (pa_cons (pv 0) pa_nil)) pa_nil))) (pg_name (i := 2) sc_digits_end.nd rfl (Or.inl rfl)) (pss_one (ps_if (PW.pt (pw_or (pt_cmpR op_lt (pe_ix ix_list (pv 0) (pv 2) (fun _ _ => rfl)) (pe_ci c_ZERO) (nomark _)) (pw_or1 (pt_cmpR op_gt (pe_ix ix_list (pv 0) (pv 2) (fun _ _ => rfl)) (pe_ci c_NINE) (nomark _))))) (pss_one (ps_ret (pv 2))) pss_nil))) (pss_one (ps_ret (pe_callB call_len_seq (by rfl) b_len (by decide +kernel) (pa_cons (pv 0) pa_nil))))), ?_⟩
  refine ⟨_, rfl, _, rfl, a, _, rfl, .inl hS, (k : Int), ((Bs t).length : Int), rfl, ?_, ?_⟩
  · rw [Bs_len]
    omega
  rw [Bs_len]
  refine for_range (lo := (k : Int)) (n := ((t.length : Int) - (k : Int)).toNat) (fun i σ H' => H' = H ∧ (∃ v, σ = [some (.ref a), some (.int (k : Int)), v]) ∧ ∀ j y, j < i → (t.drop k)[j]? = some y → isDigit y = true) ⟨rfl, ⟨none, rfl⟩, fun j y hj => absurd hj (Nat.not_lt_zero _)⟩ ?_ ?_
  · rintro i σ H' hi ⟨rfl, ⟨v, rfl⟩, hb⟩
    have hlt : k + i < t.length := by omega
    obtain ⟨hc, hd⟩ := at_shift hlt
    have stop : isDigit t[k + i] = false → Q (.int ((k : Int) + (i : Int))) H' := fun hx => by
      have e := runLen_stop isDigit (t.drop k) i _ hb hd hx
      rw [e] at q
      rw [show (k : Int) + (i : Int) = ((k + i : Nat) : Int) by omega]
      exact q
    refine ⟨_, rfl, _, rfl, a, _, _, _, rfl, rfl, hS, Bs_atI (by omega) hc, _, _, rfl, rfl, _, rfl, ?_⟩
    by_cases h1 : ((t[k + i] : Nat) : Int) < 48
    · refine itT h1 (iteT ⟨_, rfl, stop (decide_eq_false fun z => ?_)⟩)
      omega
    · refine itF h1 ⟨_, rfl, _, rfl, a, _, _, _, rfl, rfl, hS, Bs_atI (by omega) hc, _, _, rfl, rfl, _, rfl, ?_⟩
      by_cases h2 : (57 : Int) < ((t[k + i] : Nat) : Int)
      · refine itT h2 ⟨_, rfl, stop (decide_eq_false fun z => ?_)⟩
        omega
      · refine itF h2 ⟨rfl, ⟨_, rfl⟩, all_more hd (decide_eq_true ?_) hb⟩
        omega
  · rintro σ H' ⟨rfl, ⟨v, rfl⟩, hb⟩
    refine ⟨_, rfl, a, _, rfl, .inl hS, ?_⟩
    have e := runLen_all isDigit (t.drop k) fun j y hj e => hb j y (by rw [List.length_drop] at hj; omega) e
    rw [e, List.length_drop] at q
    rw [Bs_len]
    rw [show k + (t.length - k) = t.length by omega] at q
    exact q
end
end N
namespace N
open PySem L2
/-- digits_number(text, first, stop) -/
def spDigNum (K : PySem.W.Frag) : Sp := fun vs H Q _ => ∃ (a : Addr) (t : List Nat) (k m : Nat), vs = [.ref a, .int (k : Int), .int ((k + m : Nat) : Int)] ∧ SqL K H a (Bs t) ∧ t.length ≤ 100000 ∧ k + m ≤ t.length ∧ (∀ c ∈ (t.drop k).take m, isDigit c = true) ∧ Q (.int (heldNum ((t.drop k).take m))) H
section
variable {P : Program} {w : World} {K : PySem.W.Frag} {mg : Str → Option Value} {base : Heap}
theorem sc_digits_number : FnScope ["text", "first", "stop", "total", "place"] ["text", "first", "stop"] (defScope sDigitsNumber) := ⟨rfl, rfl, rfl, by decide +kernel, rfl, by decide +kernel, by decide +kernel⟩
theorem ok_digits_number (T : Top1 K mg "digits_number" sDigitsNumber ["text", "first", "stop"]) (c_ZERO : CI mg "ZERO" 48) (c_BEYOND : CI mg "BEYOND" 1000000000000000001) (b_min : mg "min" = none) (b_range : mg "range" = none) : Def P w K mg base CX0 "digits_number" 1 ["text", "first", "stop"] (spDigNum K) := by
  refine T.ok sc_digits_number (fun vs H Q E h => ?_) (fun f cdv A outer s H vs Q E hr h => ?_)
  · obtain ⟨a, t, k, m, rfl, _⟩ := h
    rfl
  obtain ⟨a, t, k, m, rfl, hS, hz, hk, hd, q⟩ := h
  refine ⟨_, (pss_cons (ps_set (i := 3) sc_digits_number.nd rfl (Or.inl rfl) pe_int) (pss_cons (ps_for PassesOwn.never rfl (pi_range2 rfl b_range (pa_cons (pv 1) (pa_cons (pv 2) pa_nil))) (pg_name (i := 4) sc_digits_number.nd rfl (Or.inl rfl)) (pss_one (ps_set (i := 3) sc_digits_number.nd rfl (Or.inl rfl) (pe_callB (call_min2 rfl) (by rfl) b_min (by decide +kernel) (pa_cons (pe_op op_sub (pe_op op_add (pe_op op_mul (pv 3) pe_int) (pe_ix ix_list (pv 0) (pv 4) (fun _ _ => rfl))) (pe_ci c_ZERO)) (pa_cons (pe_ci c_BEYOND) pa_nil)))))) (pss_one (ps_ret (pv 3))))), ?_⟩
  refine ⟨_, rfl, _, rfl, (k : Int), ((k + m : Nat) : Int), rfl, ⟨by omega, by omega, by omega, by omega⟩, ?_⟩
  refine for_range (lo := (k : Int)) (n := (((k + m : Nat) : Int) - (k : Int)).toNat) (fun i σ H' => H' = H ∧ i ≤ m ∧ ∃ v, σ = [some (.ref a), some (.int (k : Int)), some (.int ((k + m : Nat) : Int)), some (.int (heldNum ((t.drop k).take i))), v]) ⟨rfl, Nat.zero_le _, ⟨none, rfl⟩⟩ ?_ ?_
  · rintro i σ H' hi ⟨rfl, him, ⟨v, rfl⟩⟩
    have hi' : i < m := by omega
    have hlt : k + i < t.length := by omega
    obtain ⟨hc, hd'⟩ := at_shift hlt
    have hn := heldNum_bounds ((t.drop k).take i) fun c hc => hd c (List.mem_of_mem_take (i := i) (by rw [List.take_take, Nat.min_eq_left (Nat.le_of_lt hi')]; exact hc))
    refine ⟨_, rfl, _, _, rfl, rfl, .inl ⟨by omega, by omega⟩, _, rfl, _, rfl, a, _, _, _, rfl, rfl, hS, Bs_atI (by omega) hc, _, _, rfl, rfl, _, _, rfl, rfl, _, _, rfl, ?_⟩
    refine ⟨rfl, hi', some (.int ((k : Int) + (i : Int))), ?_⟩
    rw [heldNum_more hd']
    rfl
  · rintro σ H' ⟨rfl, him, ⟨v, rfl⟩⟩
    refine ⟨_, rfl, ?_⟩
    rw [show (((k + m : Nat) : Int) - (k : Int)).toNat = m by omega]
    exact q
end
end N
namespace N
open PySem L2
/-! ### Token -/
def tokF (k n s : Int) : List (Str × V) := [("kind", .int k), ("number", .int n), ("stop", .int s)]
theorem tokF_put (k n s : Int) : putF "stop" (.int s) (putF "number" (.int n) (putF "kind" (.int k) [])) = tokF k n s := by
  show putF "stop" (.int s) (if ("kind" : Str) = "number" then _ else (("kind" : Str), V.int k) :: putF "number" (V.int n) []) = _
  rw [if_neg (by decide +kernel)]
  show (if ("kind" : Str) = "stop" then _ else (("kind" : Str), V.int k) :: (if ("number" : Str) = "stop" then _ else (("number" : Str), V.int n) :: putF "stop" (V.int s) [])) = _
  rw [if_neg (by decide +kernel), if_neg (by decide +kernel)]
  rfl
theorem tokF_kind (k n s : Int) : (tokF k n s).lookup ("kind" : Str) = some (.int k) := by
  unfold tokF
  rw [List.lookup_cons, show (("kind" : Str) == "kind") = true by decide +kernel]
theorem tokF_number (k n s : Int) : (tokF k n s).lookup ("number" : Str) = some (.int n) := by
  unfold tokF
  rw [List.lookup_cons, show (("number" : Str) == "kind") = false by decide +kernel, List.lookup_cons, show (("number" : Str) == "number") = true by decide +kernel]
theorem tokF_stop (k n s : Int) : (tokF k n s).lookup ("stop" : Str) = some (.int s) := by
  unfold tokF
  rw [List.lookup_cons, show (("stop" : Str) == "kind") = false by decide +kernel, List.lookup_cons, show (("stop" : Str) == "number") = false by decide +kernel, List.lookup_cons, show (("stop" : Str) == "stop") = true by decide +kernel]
/-- a token: its kind, number, the place behind it -/
structure Tk where
  kind : Int
  num : Int
  stop : Int
/-- v is a Token that tells k -/
def TokV (C : Addr) (H : Hp) (v : V) (k : Tk) : Prop := ∃ x dx, v = .ref x ∧ H x = some (.ins C dx (tokF k.kind k.num k.stop))
theorem TokV.mono {C : Addr} {H H' : Hp} {v : V} {k : Tk} (e : Same H H') (h : TokV C H v k) : TokV C H' v k := by
  obtain ⟨x, dx, a, b⟩ := h
  exact ⟨x, dx, a, e _ _ b⟩
def spTokenInit (C : Addr) : Sp := fun vs H Q _ => ∃ (p dx : Addr) (k n s : Int), vs = [.ref p, .int k, .int n, .int s] ∧ H p = some (.ins C dx []) ∧ Q .non (upd H p (.ins C dx (tokF k n s)))
section
variable {P : Program} {w : World} {K : PySem.W.Frag} {mg : Str → Option Value} {base : Heap} {CTok : Addr}
theorem sc_TokenInit : FnScope ["self", "kind", "number", "stop"] ["self", "kind", "number", "stop"] (defScope sTokenInit) := ⟨rfl, rfl, rfl, by decide +kernel, rfl, by decide +kernel, by decide +kernel⟩
theorem ok_TokenInit (T : TopC K mg "Token" "Token.__init__" sTokenInit ["self", "kind", "number", "stop"] CTok) (F : ClF K CTok ["kind", "number", "stop"]) : DefC P w K mg base "Token" CTok 1 ["self", "kind", "number", "stop"] (spTokenInit CTok) := by
  refine T.ok sc_TokenInit (fun vs H Q E h => ?_) (fun f cdv A outer s H vs Q E hr h => ?_)
  · obtain ⟨p, dx, k, n, s, rfl, _⟩ := h
    rfl
  obtain ⟨p, dx, k, n, st, rfl, hp, q⟩ := h
  refine ⟨_, pss_cons (ps_fld (pv 0) (pv 1) rfl) (pss_cons (ps_fld (pv 0) (pv 2) rfl) (pss_one (ps_fld (pv 0) (pv 3) rfl))), ?_⟩
  refine ⟨_, rfl, _, rfl, p, CTok, dx, _, rfl, hp, F.cl, F.no _ (by simp), (by show 0 < 1000; decide), _, rfl, _, rfl, p, CTok, dx, _, rfl, upd_same, F.cl, F.no _ (by simp), (by show 1 < 1000; decide), _, rfl, _, rfl, p, CTok, dx, _, rfl, upd_same, F.cl, F.no _ (by simp), ?_, ?_⟩
  · show (if ("kind" : Str) = "number" then (("kind" : Str), V.int n) :: [] else (("kind" : Str), V.int k) :: putF "number" (V.int n) []).length < 1000
    rw [if_neg (by decide +kernel)]
    show 2 < 1000
    decide
  · rw [tokF_put, upd_upd, upd_upd]
    exact q
/-- Token(k, n, s): the end of its reading -/
theorem new_tok {H1 : Hp} {Q : VK} {E : XK} {k n s : Int} (q : ∀ (x : Addr) (H2 : Hp), Same H1 H2 → TokV CTok H2 (.ref x) ⟨k, n, s⟩ → Q (.ref x) H2) :
    ∀ x dx, H1 x = none → H1 dx = none → dx ≠ x → spTokenInit CTok (.ref x :: ([.int k, .int n, .int s] ++ [])) (upd (upd H1 dx (.own x)) x (.ins CTok dx [])) (fun v H2 => v = .non ∧ Q (.ref x) H2) E := by
  intro x dx nx nd ne
  refine ⟨x, dx, k, n, s, rfl, upd_same, rfl, ?_⟩
  rw [upd_upd]
  have e1 : Same H1 (upd H1 dx (.own x)) := same_new nd _
  have e2 : Same H1 (upd (upd H1 dx (.own x)) x (.ins CTok dx (tokF k n s))) := Same.mut e1 nx
  exact q x _ e2 ⟨x, dx, rfl, upd_same⟩
end
end N
namespace N
open PySem L2
/-- good_digits(text, first, stop, below): m digits from k on -/
def goodDig (ds : List Nat) (below : Bool) : Bool := !ds.isEmpty && (ds.head? != some 48 || (ds.length == 1 && !below))
def spGoodDig (K : PySem.W.Frag) : Sp := fun vs H Q _ => ∃ (a : Addr) (t : List Nat) (k m : Nat) (b : Bool), vs = [.ref a, .int (k : Int), .int ((k + m : Nat) : Int), .bl b] ∧ SqL K H a (Bs t) ∧ t.length ≤ 100000 ∧ k + m ≤ t.length ∧ Q (.bl (goodDig ((t.drop k).take m) b)) H
section
variable {P : Program} {w : World} {K : PySem.W.Frag} {mg : Str → Option Value} {base : Heap}
theorem sc_good_digits : FnScope ["text", "first", "stop", "below"] ["text", "first", "stop", "below"] (defScope sGoodDigits) := ⟨rfl, rfl, rfl, by decide +kernel, rfl, by decide +kernel, by decide +kernel⟩
theorem ok_good_digits (T : Top1 K mg "good_digits" sGoodDigits ["text", "first", "stop", "below"]) (c_ZERO : CI mg "ZERO" 48) : Def P w K mg base CX0 "good_digits" 1 ["text", "first", "stop", "below"] (spGoodDig K) := by
  refine T.ok sc_good_digits (fun vs H Q E h => ?_) (fun f cdv A outer s H vs Q E hr h => ?_)
  · obtain ⟨a, t, k, m, b, rfl, _⟩ := h
    rfl
  obtain ⟨a, t, k, m, b, rfl, hS, hz, hk, q⟩ := h
  refine ⟨_, (pss_cons (ps_if (pt_cmpR op_eq (pv 1) (pv 2) (nomark _)) (pss_one (ps_ret pe_bl)) pss_nil) (pss_cons (ps_if (pt_cmpR op_ne (pe_ix ix_list (pv 0) (pv 1) (fun _ _ => rfl)) (pe_ci c_ZERO) (nomark _)) (pss_one (ps_ret pe_bl)) pss_nil) (pss_one (ps_ret (pe_and (pe_cmpR op_eq (pv 2) (pe_op op_add (pv 1) pe_int) (nomark _)) (pe_one (pe_not (pv 3)))))))), ?_⟩
  refine ⟨_, rfl, _, rfl, rfl, _, rfl, ?_⟩
  by_cases h0 : m = 0
  · subst h0
    refine itT rfl ?_
    exact q
  have hlt : k + 0 < t.length := by omega
  obtain ⟨hc, hd'⟩ := at_shift hlt
  have hh : ((t.drop k).take m).head? = some t[k + 0] := by rw [List.head?_take, if_neg h0, List.head?_eq_getElem?, hd']
  have hne : ((t.drop k).take m).isEmpty = false := by
    cases e : (t.drop k).take m with
    | nil =>
      rw [e] at hh
      cases hh
    | cons _ _ => rfl
  have hl : ((t.drop k).take m).length = m := by rw [List.length_take, List.length_drop]; omega
  refine itF (by intro z; have := V.int.inj z; omega) ⟨_, rfl, _, rfl, a, _, _, _, rfl, rfl, hS, Bs_atI (by omega) (show t[((k : Int)).toNat]? = some t[k + 0] by rw [Int.toNat_natCast]; exact List.getElem?_eq_getElem hlt), rfl, _, rfl, ?_⟩
  unfold goodDig at q
  rw [hne, hh, hl] at q
  by_cases h1 : t[k + 0] = 48
  · have e1 : V.int ((t[k + 0] : Nat) : Int) = V.int 48 := by rw [h1]; rfl
    rw [e1]
    refine iteF ⟨_, rfl, _, rfl, _, _, rfl, rfl, rfl, _, rfl, ?_⟩
    have e2 : ((some t[k + 0] : Option Nat) != some 48) = false := by rw [h1]; rfl
    rw [e2] at q
    by_cases h2 : m = 1
    · subst h2
      refine itT (by rw [show ((k + 1 : Nat) : Int) = (k : Int) + 1 by omega]) ⟨_, rfl, _, rfl, ?_⟩
      exact q
    · refine itF (by intro z; have := V.int.inj z; omega) ?_
      have e3 : (m == 1) = false := beq_eq_false_iff_ne.mpr h2
      rw [e3] at q
      exact q
  · have e1 : decide (V.int ((t[k + 0] : Nat) : Int) = V.int 48) = false := decide_eq_false (by intro z; have := V.int.inj z; omega)
    rw [e1]
    refine iteT ?_
    have e2 : ((some t[k + 0] : Option Nat) != some 48) = true := by
      rw [bne_iff_ne]
      intro z
      exact h1 (Option.some.inj z)
    rw [e2] at q
    exact q
end
end N
namespace N
/-- the number token that begins at the head of l, at place k of the text -/
def digs (l : List Nat) : List Nat := if l.head? = some 95 then (l.drop 1).takeWhile isDigit else l.takeWhile isDigit
def tokNum (l : List Nat) (k : Nat) : Tk :=
  if goodDig (digs l) (l.head? == some 95) = true then
    ⟨1, if l.head? = some 95 then - heldNum (digs l) else heldNum (digs l), ((k + (if l.head? = some 95 then 1 else 0) + (digs l).length : Nat) : Int)⟩
  else ⟨0, 0, (k : Int)⟩
def isSign (c : Nat) : Bool := c == 91 || (c == 58 || c == 93)
def tokOf (l : List Nat) (k : Nat) : Tk := match l with
  | [] => ⟨0, 0, (k : Int)⟩
  | c :: _ => if isSign c = true then ⟨(c : Int), 0, (k : Int) + 1⟩ else tokNum l k
def afterNum (st n : Int) : Int := if st = 0 then 3 else if st = 2 then 2 else if st = 1 ∧ 0 ≤ n then 1 else 4
def afterCl (lv : Int) : Int := if lv = 0 then 3 else 2
def adv (st lv : Int) (k : Tk) : Int × Int :=
  if k.kind = 1 then (afterNum st k.num, lv)
  else if k.kind = 91 ∧ (st = 0 ∨ st = 2) then (1, lv + 1)
  else if k.kind = 58 ∧ st = 1 then (2, lv)
  else if k.kind = 93 ∧ st = 2 then (afterCl (lv - 1), lv - 1)
  else (4, lv)
/-- the scan from place at on (in so many steps), with the tokens so far -/
def scanF : Nat → List Nat → Nat → Int → Int → List Tk → List Tk × Int
  | 0, t, _, _, _, acc => (acc, (t.length : Int))
  | f + 1, t, at_, st, lv, acc =>
    if at_ < t.length then
      let k := tokOf (t.drop at_) at_
      if (adv st lv k).1 = 4 then (acc, (at_ : Int))
      else scanF f t (k.stop.toNat + runLen isBlank (t.drop k.stop.toNat)) (adv st lv k).1 (adv st lv k).2 (acc ++ [k])
    else if st = 3 then (acc, -1) else (acc, (t.length : Int))
def scanAll (t : List Nat) : List Tk × Int := scanF (t.length + 1) t (runLen isBlank t) 0 0 []
theorem takeWhile_take {p : Nat → Bool} : ∀ l : List Nat, l.take (runLen p l) = l.takeWhile p
  | [] => rfl
  | a :: l => by
    unfold runLen
    by_cases h : p a = true
    · rw [List.takeWhile_cons_of_pos h]
      show a :: l.take (runLen p l) = _
      rw [takeWhile_take l]
    · rw [List.takeWhile_cons_of_neg h]
      rfl
theorem takeWhile_all {p : Nat → Bool} : ∀ (l : List Nat) (c : Nat), c ∈ l.takeWhile p → p c = true
  | [], _, h => by simp at h
  | a :: l, c, h => by
    by_cases ha : p a = true
    · rw [List.takeWhile_cons_of_pos ha] at h
      rcases List.mem_cons.mp h with e | h
      · rw [e]; exact ha
      · exact takeWhile_all l c h
    · rw [List.takeWhile_cons_of_neg ha] at h
      simp at h
theorem adv_zero (st lv : Int) (k : Tk) (h : k.kind = 0) : (adv st lv k).1 = 4 := by
  unfold adv
  rw [if_neg (by omega), if_neg (by omega), if_neg (by omega), if_neg (by omega)]
theorem takeWhile_len {p : Nat → Bool} (l : List Nat) : (l.takeWhile p).length ≤ l.length := runLen_le p l
theorem tokNum_stop (l : List Nat) (k : Nat) : (tokNum l k).kind = 0 ∨ ∃ s : Nat, (tokNum l k).stop = (s : Int) ∧ k < s ∧ s ≤ k + l.length := by
  unfold tokNum
  by_cases g : goodDig (digs l) (l.head? == some 95) = true
  · rw [if_pos g]
    refine .inr ⟨_, rfl, ?_⟩
    have hne : 0 < (digs l).length := by
      unfold goodDig at g
      cases e : digs l with
      | nil =>
        rw [e] at g
        cases g
      | cons _ _ => exact Nat.succ_pos _
    have hle : (if l.head? = some 95 then 1 else 0) + (digs l).length ≤ l.length := by
      unfold digs
      by_cases h : l.head? = some 95
      · rw [if_pos h, if_pos h]
        have := takeWhile_len (p := isDigit) (l.drop 1)
        rw [List.length_drop] at this
        have hl : l ≠ [] := fun z => by rw [z] at h; cases h
        have := List.length_pos_iff.mpr hl
        omega
      · rw [if_neg h, if_neg h]
        have := takeWhile_len (p := isDigit) l
        omega
    omega
  · rw [if_neg g]
    exact .inl rfl
theorem tokOf_stop {t : List Nat} {k : Nat} (hk : k < t.length) : (tokOf (t.drop k) k).kind = 0 ∨ ∃ s : Nat, (tokOf (t.drop k) k).stop = (s : Int) ∧ k < s ∧ s ≤ t.length := by
  have hdr : t.drop k = t[k] :: t.drop (k + 1) := List.drop_eq_getElem_cons hk
  have h := tokNum_stop (t.drop k) k
  have hl : (t.drop k).length = t.length - k := List.length_drop
  rw [hl] at h
  generalize hg : t.drop k = l at *
  rw [hdr]
  unfold tokOf
  by_cases s : isSign t[k] = true
  · simp only [s, if_true]
    exact .inr ⟨k + 1, rfl, Nat.lt_succ_self _, hk⟩
  · simp only [s, if_false]
    rw [← hdr]
    rcases h with h | ⟨s', h1, h2, h3⟩
    · exact .inl h
    · exact .inr ⟨s', h1, h2, by omega⟩
end N
namespace N
open PySem L2
/-- read_number(text, at), at within the text -/
def spReadNum (K : PySem.W.Frag) (C : Addr) : Sp := fun vs H Q _ => ∃ (a : Addr) (t : List Nat) (k : Nat), vs = [.ref a, .int (k : Int)] ∧ SqL K H a (Bs t) ∧ t.length ≤ 100000 ∧ k < t.length ∧
  ∀ (v : V) (H' : Hp), Same H H' → TokV C H' v (tokNum (t.drop k) k) → Q v H'
section
variable {P : Program} {w : World} {K : PySem.W.Frag} {mg : Str → Option Value} {base : Heap} {CTok : Addr}
theorem sc_read_number : FnScope ["text", "at", "below", "first", "stop", "far"] ["text", "at"] (defScope sReadNumber) := ⟨rfl, rfl, rfl, by decide +kernel, rfl, by decide +kernel, by decide +kernel⟩
theorem ok_read_number (T : Top1 K mg "read_number" sReadNumber ["text", "at"]) (c_NUMBER : CI mg "NUMBER" 1) (c_NOTHING : CI mg "NOTHING" 0) (c_LOW : CI mg "LOW" 95) (D_Token : DefC P w K mg base "Token" CTok 1 ["self", "kind", "number", "stop"] (spTokenInit CTok)) (D_digits_number : Def P w K mg base CX0 "digits_number" 1 ["text", "first", "stop"] (spDigNum K)) (D_good_digits : Def P w K mg base CX0 "good_digits" 1 ["text", "first", "stop", "below"] (spGoodDig K)) (D_digits_end : Def P w K mg base CX0 "digits_end" 1 ["text", "at"] (spDigEnd K)) : Def P w K mg base CX0 "read_number" 3 ["text", "at"] (spReadNum K CTok) := by
  refine T.ok sc_read_number (fun vs H Q E h => ?_) (fun f cdv A outer s H vs Q E hr h => ?_)
  · obtain ⟨a, t, k, rfl, _⟩ := h
    rfl
  obtain ⟨a, t, k, rfl, hS, hz, hk, q⟩ := h
  refine ⟨_, (pss_cons (ps_set (i := 2) sc_read_number.nd rfl (Or.inl rfl) (pe_cmpR op_eq (pe_ix ix_list (pv 0) (pv 1) (fun _ _ => rfl)) (pe_ci c_LOW) (nomark _))) (pss_cons (ps_set (i := 3) sc_read_number.nd rfl (Or.inl rfl) (pe_ifExp (pt_val (pv 2)) (pe_op op_add (pv 1) pe_int) (pv 1))) (pss_cons (ps_set (i := 4) sc_read_number.nd rfl (Or.inl rfl) (pe_fn D_digits_end (hr.mono (by decide)) pass0 (pa_cons (pv 0) (pa_cons (pv 3) pa_nil)))) (pss_cons (ps_if (pt_not (pt_val (pe_fn D_good_digits (hr.mono (by decide)) pass0 (pa_cons (pv 0) (pa_cons (pv 3) (pa_cons (pv 4) (pa_cons (pv 2) pa_nil))))))) (pss_one (ps_ret (pe_new D_Token (hr.mono (by decide)) (pa_cons (pe_ci c_NOTHING) (pa_cons pe_int (pa_cons (pv 1) pa_nil)))))) pss_nil) (pss_cons (ps_set (i := 5) sc_read_number.nd rfl (Or.inl rfl) (pe_fn D_digits_number (hr.mono (by decide)) pass0 (pa_cons (pv 0) (pa_cons (pv 3) (pa_cons (pv 4) pa_nil))))) (pss_cons (ps_if (pt_val (pv 2)) (pss_one (ps_ret (pe_new D_Token (hr.mono (by decide)) (pa_cons (pe_ci c_NUMBER) (pa_cons (pe_un un_neg (pv 5)) (pa_cons (pv 4) pa_nil)))))) pss_nil) (pss_one (ps_ret (pe_new D_Token (hr.mono (by decide)) (pa_cons (pe_ci c_NUMBER) (pa_cons (pv 5) (pa_cons (pv 4) pa_nil)))))))))))), ?_⟩
  have hc : t[((k : Int)).toNat]? = some t[k] := by
    rw [Int.toNat_natCast]
    exact List.getElem?_eq_getElem hk
  have hdr : t.drop k = t[k] :: t.drop (k + 1) := List.drop_eq_getElem_cons hk
  have hh : (t.drop k).head? = some t[k] := by rw [hdr]; rfl
  refine ⟨_, rfl, _, rfl, a, _, _, _, rfl, rfl, hS, Bs_atI (by omega) hc, rfl, ?_⟩
  -- what stands behind the low line
  have main : ∀ (b : Bool) (j : Nat) (l : List Nat), b = decide (t[k] = 95) → j = (if t[k] = 95 then k + 1 else k) → l = t.drop j → j ≤ t.length → digs (t.drop k) = l.takeWhile isDigit ∧ k + (if (t.drop k).head? = some 95 then 1 else 0) = j ∧ (t.drop j).take (runLen isDigit l) = digs (t.drop k) ∧ j + runLen isDigit l ≤ t.length ∧ ((t.drop k).head? == some 95) = b := by
    rintro b j l rfl hj rfl hjl
    have hle := runLen_le isDigit (t.drop j)
    rw [List.length_drop] at hle
    have e1 : digs (t.drop k) = (t.drop j).takeWhile isDigit := by
      unfold digs
      rw [hh, List.drop_drop]
      by_cases c : t[k] = 95
      · rw [if_pos (by rw [c]), hj, if_pos c]
      · rw [if_neg (by intro z; exact c (Option.some.inj z)), hj, if_neg c]
    refine ⟨e1, ?_, ?_, by omega, ?_⟩
    · rw [hh, hj]
      by_cases c : t[k] = 95
      · rw [if_pos (by rw [c]), if_pos c]
      · rw [if_neg (by intro z; exact c (Option.some.inj z)), if_neg c]
        rfl
    · rw [e1]
      exact takeWhile_take _
    · rw [hh]
      by_cases c : t[k] = 95
      · rw [c]; rfl
      · rw [decide_eq_false c]
        exact beq_eq_false_iff_ne.mpr fun z => c (Option.some.inj z)
  have go : ∀ (b : Bool) (j : Nat), b = decide (t[k] = 95) → j = (if t[k] = 95 then k + 1 else k) → j ≤ t.length → ∀ (v : Bool), v = b →
      (tokNum (t.drop k) k = if goodDig ((t.drop j).take (runLen isDigit (t.drop j))) b = true then ⟨1, if b = true then - heldNum ((t.drop j).take (runLen isDigit (t.drop j))) else heldNum ((t.drop j).take (runLen isDigit (t.drop j))), ((j + runLen isDigit (t.drop j) : Nat) : Int)⟩ else ⟨0, 0, (k : Int)⟩) ∧ j + runLen isDigit (t.drop j) ≤ t.length ∧ ∀ c ∈ (t.drop j).take (runLen isDigit (t.drop j)), isDigit c = true := by
    intro b j hb hj hjl v _
    obtain ⟨e1, e2, e3, e4, e5⟩ := main b j _ hb hj rfl hjl
    refine ⟨?_, e4, fun c hc => ?_⟩
    · unfold tokNum
      have e6 : (if (t.drop k).head? = some 95 then - heldNum (digs (t.drop k)) else heldNum (digs (t.drop k))) = if b = true then - heldNum (digs (t.drop k)) else heldNum (digs (t.drop k)) := by
        rw [← e5]
        by_cases c : (t.drop k).head? = some 95
        · rw [if_pos c, if_pos (beq_iff_eq.mpr c)]
        · rw [if_neg c, if_neg (fun z => c (beq_iff_eq.mp z))]
      have e7 : (digs (t.drop k)).length = runLen isDigit (t.drop j) := by rw [e1]; rfl
      rw [e6, e5, e2, e3, e7]
    · rw [e3, e1] at hc
      exact takeWhile_all _ _ hc
  by_cases c : t[k] = 95
  · have hb : decide (V.int ((t[k] : Nat) : Int) = V.int 95) = true := decide_eq_true (by rw [c]; rfl)
    rw [hb]
    obtain ⟨g1, g2, g3⟩ := go true (k + 1) (by rw [decide_eq_true c]) (by rw [if_pos c]) hk true rfl
    refine ⟨_, rfl, _, rfl, iteT ⟨_, rfl, _, _, rfl, rfl, ?_⟩⟩
    refine ⟨_, rfl, _, rfl, a, t, k + 1, rfl, hS, hz, hk, ?_⟩
    refine ⟨_, rfl, _, rfl, _, rfl, _, rfl, a, t, k + 1, _, true, rfl, hS, hz, g2, _, rfl, ?_⟩
    cases hg : goodDig ((t.drop (k + 1)).take (runLen isDigit (t.drop (k + 1)))) true with
    | false =>
      rw [hg, if_neg Bool.false_ne_true] at g1
      rw [g1] at q
      exact iteT ⟨_, rfl, new_tok fun x H2 e h => q _ _ e h⟩
    | true =>
      rw [hg, if_pos rfl] at g1
      rw [g1] at q
      refine iteF ⟨_, rfl, _, rfl, _, rfl, a, t, k + 1, _, rfl, hS, hz, g2, g3, ?_⟩
      refine ⟨_, rfl, _, rfl, iteT ⟨_, rfl, _, rfl, _, rfl, new_tok fun x H2 e h => q _ _ e h⟩⟩
  · have hb : decide (V.int ((t[k] : Nat) : Int) = V.int 95) = false := decide_eq_false (by intro z; have := V.int.inj z; omega)
    rw [hb]
    obtain ⟨g1, g2, g3⟩ := go false k (by rw [decide_eq_false c]) (by rw [if_neg c]) (Nat.le_of_lt hk) false rfl
    refine ⟨_, rfl, _, rfl, iteF ⟨_, rfl, ?_⟩⟩
    refine ⟨_, rfl, _, rfl, a, t, k, rfl, hS, hz, Nat.le_of_lt hk, ?_⟩
    refine ⟨_, rfl, _, rfl, _, rfl, _, rfl, a, t, k, _, false, rfl, hS, hz, g2, _, rfl, ?_⟩
    cases hg : goodDig ((t.drop k).take (runLen isDigit (t.drop k))) false with
    | false =>
      rw [hg, if_neg Bool.false_ne_true] at g1
      rw [g1] at q
      exact iteT ⟨_, rfl, new_tok fun x H2 e h => q _ _ e h⟩
    | true =>
      rw [hg, if_pos rfl] at g1
      rw [g1] at q
      refine iteF ⟨_, rfl, _, rfl, _, rfl, a, t, k, _, rfl, hS, hz, g2, g3, ?_⟩
      refine ⟨_, rfl, _, rfl, iteF ⟨_, rfl, _, rfl, new_tok fun x H2 e h => q _ _ e h⟩⟩
end
end N
namespace N
open PySem L2
/-- read_token(text, at), at within the text -/
def spReadTok (K : PySem.W.Frag) (C : Addr) : Sp := fun vs H Q _ => ∃ (a : Addr) (t : List Nat) (k : Nat), vs = [.ref a, .int (k : Int)] ∧ SqL K H a (Bs t) ∧ t.length ≤ 100000 ∧ k < t.length ∧
  ∀ (v : V) (H' : Hp), Same H H' → TokV C H' v (tokOf (t.drop k) k) → Q v H'
section
variable {P : Program} {w : World} {K : PySem.W.Frag} {mg : Str → Option Value} {base : Heap} {CTok : Addr}
theorem sc_read_token : FnScope ["text", "at"] ["text", "at"] (defScope sReadToken) := ⟨rfl, rfl, rfl, by decide +kernel, rfl, by decide +kernel, by decide +kernel⟩
theorem ok_read_token (T : Top1 K mg "read_token" sReadToken ["text", "at"]) (c_SIGNS : CT K mg "SIGNS" [91, 58, 93]) (D_Token : DefC P w K mg base "Token" CTok 1 ["self", "kind", "number", "stop"] (spTokenInit CTok)) (D_read_number : Def P w K mg base CX0 "read_number" 3 ["text", "at"] (spReadNum K CTok)) : Def P w K mg base CX0 "read_token" 4 ["text", "at"] (spReadTok K CTok) := by
  refine T.ok sc_read_token (fun vs H Q E h => ?_) (fun f cdv A outer s H vs Q E hr h => ?_)
  · obtain ⟨a, t, k, rfl, _⟩ := h
    rfl
  obtain ⟨a, t, k, rfl, hS, hz, hk, q⟩ := h
  refine ⟨_, (pss_cons (ps_if (pt_cmpR op_in_seq (pe_ix ix_list (pv 0) (pv 1) (fun _ _ => rfl)) (pe_ct c_SIGNS) rfl) (pss_one (ps_ret (pe_new D_Token (hr.mono (by decide)) (pa_cons (pe_ix ix_list (pv 0) (pv 1) (fun _ _ => rfl)) (pa_cons pe_int (pa_cons (pe_op op_add (pv 1) pe_int) pa_nil)))))) pss_nil) (pss_one (ps_ret (pe_fn D_read_number (hr.mono (by decide)) pass0 (pa_cons (pv 0) (pa_cons (pv 1) pa_nil)))))), ?_⟩
  have hc : t[((k : Int)).toNat]? = some t[k] := by
    rw [Int.toNat_natCast]
    exact List.getElem?_eq_getElem hk
  have hdr : t.drop k = t[k] :: t.drop (k + 1) := List.drop_eq_getElem_cons hk
  refine ⟨_, rfl, _, rfl, a, _, _, _, rfl, rfl, hS, Bs_atI (by omega) hc, fun b hT => ⟨b, _, rfl, .inr (hT _), rfl, rfl, _, rfl, ?_⟩⟩
  rw [sign_in]
  show if isSign t[k] = true then _ else _
  rw [hdr] at q
  unfold tokOf at q
  cases hs : isSign t[k] with
  | true =>
    simp only [hs, if_true] at q
    exact iteT ⟨_, rfl, _, rfl, a, _, _, _, rfl, rfl, hS, Bs_atI (by omega) hc, _, rfl, _, _, rfl, rfl, new_tok fun x H2 e h => q _ _ e h⟩
  | false =>
    simp only [hs, Bool.false_eq_true, if_false] at q
    rw [← hdr] at q
    exact iteF ⟨_, rfl, _, rfl, a, t, k, rfl, hS, hz, hk, q⟩
end
end N
namespace N
open PySem L2
def spAfterNum : Sp := fun vs H Q _ => ∃ (st n : Int), vs = [.int st, .int n] ∧ Q (.int (afterNum st n)) H
section
variable {P : Program} {w : World} {K : PySem.W.Frag} {mg : Str → Option Value} {base : Heap}
theorem sc_state_after_number : FnScope ["state", "number"] ["state", "number"] (defScope sStateAfterNumber) := ⟨rfl, rfl, rfl, by decide +kernel, rfl, by decide +kernel, by decide +kernel⟩
theorem ok_state_after_number (T : Top1 K mg "state_after_number" sStateAfterNumber ["state", "number"]) (c_FAULT : CI mg "FAULT" 4) (c_EXTENTS : CI mg "EXTENTS" 1) (c_MEMBERS : CI mg "MEMBERS" 2) (c_START : CI mg "START" 0) (c_DONE : CI mg "DONE" 3) : Def P w K mg base CX0 "state_after_number" 1 ["state", "number"] (spAfterNum) := by
  refine T.ok sc_state_after_number (fun vs H Q E h => ?_) (fun f cdv A outer s H vs Q E hr h => ?_)
  · obtain ⟨st, n, rfl, _⟩ := h
    rfl
  obtain ⟨st, n, rfl, q⟩ := h
  refine ⟨_, (pss_cons (ps_if (pt_cmpR op_eq (pv 0) (pe_ci c_START) (nomark _)) (pss_one (ps_ret (pe_ci c_DONE))) pss_nil) (pss_cons (ps_if (pt_cmpR op_eq (pv 0) (pe_ci c_MEMBERS) (nomark _)) (pss_one (ps_ret (pe_ci c_MEMBERS))) pss_nil) (pss_cons (ps_if (PW.pt (pw_and (pt_cmpR op_eq (pv 0) (pe_ci c_EXTENTS) (nomark _)) (pw_and1 (pt_cmpR op_ge (pv 1) pe_int (nomark _))))) (pss_one (ps_ret (pe_ci c_EXTENTS))) pss_nil) (pss_one (ps_ret (pe_ci c_FAULT)))))), ?_⟩
  unfold afterNum at q
  refine ⟨_, rfl, rfl, _, rfl, ?_⟩
  by_cases h0 : st = 0
  · rw [if_pos h0] at q
    exact itT (by rw [h0]) q
  rw [if_neg h0] at q
  refine itF (fun z => h0 (V.int.inj z)) ⟨_, rfl, rfl, _, rfl, ?_⟩
  by_cases h2 : st = 2
  · rw [if_pos h2] at q
    exact itT (by rw [h2]) q
  rw [if_neg h2] at q
  refine itF (fun z => h2 (V.int.inj z)) ⟨_, rfl, rfl, _, rfl, ?_⟩
  by_cases h1 : st = 1
  · refine itT (by rw [h1]) ⟨_, rfl, _, _, rfl, rfl, _, rfl, ?_⟩
    by_cases hn : 0 ≤ n
    · rw [if_pos ⟨h1, hn⟩] at q
      exact itT hn q
    · rw [if_neg (fun z => hn z.2)] at q
      exact itF hn q
  · rw [if_neg (fun z => h1 z.1)] at q
    exact itF (fun z => h1 (V.int.inj z)) q
end
end N
namespace N
open PySem L2
def spAfterCl : Sp := fun vs H Q _ => ∃ (lv : Int), vs = [.int lv] ∧ Q (.int (afterCl lv)) H
section
variable {P : Program} {w : World} {K : PySem.W.Frag} {mg : Str → Option Value} {base : Heap}
theorem sc_state_after_closing : FnScope ["level"] ["level"] (defScope sStateAfterClosing) := ⟨rfl, rfl, rfl, by decide +kernel, rfl, by decide +kernel, by decide +kernel⟩
theorem ok_state_after_closing (T : Top1 K mg "state_after_closing" sStateAfterClosing ["level"]) (c_MEMBERS : CI mg "MEMBERS" 2) (c_DONE : CI mg "DONE" 3) : Def P w K mg base CX0 "state_after_closing" 1 ["level"] (spAfterCl) := by
  refine T.ok sc_state_after_closing (fun vs H Q E h => ?_) (fun f cdv A outer s H vs Q E hr h => ?_)
  · obtain ⟨lv, rfl, _⟩ := h
    rfl
  obtain ⟨lv, rfl, q⟩ := h
  refine ⟨_, (pss_cons (ps_if (pt_cmpR op_eq (pv 0) pe_int (nomark _)) (pss_one (ps_ret (pe_ci c_DONE))) pss_nil) (pss_one (ps_ret (pe_ci c_MEMBERS)))), ?_⟩
  unfold afterCl at q
  refine ⟨_, rfl, rfl, _, rfl, ?_⟩
  by_cases h0 : lv = 0
  · rw [if_pos h0] at q
    exact itT (by rw [h0]) q
  · rw [if_neg h0] at q
    exact itF (fun z => h0 (V.int.inj z)) q
end
end N
namespace N
open PySem L2
def spAdvance (C : Addr) : Sp := fun vs H Q _ => ∃ (st lv : Int) (v : V) (k : Tk), vs = [.int st, .int lv, v] ∧ TokV C H v k ∧
  ∀ p, H p = none → Q (.ref p) (upd H p (.tup [.int (adv st lv k).1, .int (adv st lv k).2]))
section
variable {P : Program} {w : World} {K : PySem.W.Frag} {mg : Str → Option Value} {base : Heap} {CTok : Addr}
theorem sc_advance : FnScope ["state", "level", "token"] ["state", "level", "token"] (defScope sAdvance) := ⟨rfl, rfl, rfl, by decide +kernel, rfl, by decide +kernel, by decide +kernel⟩
theorem ok_advance (T : Top1 K mg "advance" sAdvance ["state", "level", "token"]) (c_FAULT : CI mg "FAULT" 4) (c_MEMBERS : CI mg "MEMBERS" 2) (c_CLOSING : CI mg "CLOSING" 93) (c_EXTENTS : CI mg "EXTENTS" 1) (c_COLON : CI mg "COLON" 58) (c_START : CI mg "START" 0) (c_OPENING : CI mg "OPENING" 91) (c_NUMBER : CI mg "NUMBER" 1) (F_Token : ClF K CTok ["kind", "number", "stop"]) (D_state_after_closing : Def P w K mg base CX0 "state_after_closing" 1 ["level"] (spAfterCl)) (D_state_after_number : Def P w K mg base CX0 "state_after_number" 1 ["state", "number"] (spAfterNum)) : Def P w K mg base CX0 "advance" 2 ["state", "level", "token"] (spAdvance CTok) := by
  refine T.ok sc_advance (fun vs H Q E h => ?_) (fun f cdv A outer s H vs Q E hr h => ?_)
  · obtain ⟨st, lv, v, k, rfl, _⟩ := h
    rfl
  obtain ⟨st, lv, v, k, rfl, ⟨x, dx, rfl, hx⟩, q⟩ := h
  refine ⟨_, (pss_cons (ps_if (pt_cmpR op_eq (pe_fld (pv 2) rfl) (pe_ci c_NUMBER) (nomark _)) (pss_one (ps_ret (pe_tup (pa_cons (pe_fn D_state_after_number (hr.mono (by decide)) pass0 (pa_cons (pv 0) (pa_cons (pe_fld (pv 2) rfl) pa_nil))) (pa_cons (pv 1) pa_nil))))) pss_nil) (pss_cons (ps_if (PW.pt (pw_and (pt_cmpR op_eq (pe_fld (pv 2) rfl) (pe_ci c_OPENING) (nomark _)) (pw_and1 (PW.pt (pw_or (pt_cmpR op_eq (pv 0) (pe_ci c_START) (nomark _)) (pw_or1 (pt_cmpR op_eq (pv 0) (pe_ci c_MEMBERS) (nomark _)))))))) (pss_one (ps_ret (pe_tup (pa_cons (pe_ci c_EXTENTS) (pa_cons (pe_op op_add (pv 1) pe_int) pa_nil))))) pss_nil) (pss_cons (ps_if (PW.pt (pw_and (pt_cmpR op_eq (pe_fld (pv 2) rfl) (pe_ci c_COLON) (nomark _)) (pw_and1 (pt_cmpR op_eq (pv 0) (pe_ci c_EXTENTS) (nomark _))))) (pss_one (ps_ret (pe_tup (pa_cons (pe_ci c_MEMBERS) (pa_cons (pv 1) pa_nil))))) pss_nil) (pss_cons (ps_if (PW.pt (pw_and (pt_cmpR op_eq (pe_fld (pv 2) rfl) (pe_ci c_CLOSING) (nomark _)) (pw_and1 (pt_cmpR op_eq (pv 0) (pe_ci c_MEMBERS) (nomark _))))) (pss_one (ps_ret (pe_tup (pa_cons (pe_fn D_state_after_closing (hr.mono (by decide)) pass0 (pa_cons (pe_op op_sub (pv 1) pe_int) pa_nil)) (pa_cons (pe_op op_sub (pv 1) pe_int) pa_nil))))) pss_nil) (pss_one (ps_ret (pe_tup (pa_cons (pe_ci c_FAULT) (pa_cons (pv 1) pa_nil))))))))), ?_⟩
  have two : ∀ xs : List V, xs.length = 2 → xs.length ≤ sizeLine := fun xs h => by rw [h]; decide
  have gK := F_Token.no "kind" (by simp)
  have gN := F_Token.no "number" (by simp)
  have ne : ∀ {i j : Int}, ¬ i = j → ¬ V.int i = V.int j := fun h z => h (V.int.inj z)
  refine ⟨_, rfl, x, CTok, dx, _, _, rfl, hx, F_Token.cl, gK, tokF_kind _ _ _, rfl, _, rfl, ?_⟩
  by_cases h1 : k.kind = 1
  · have e : adv st lv k = (afterNum st k.num, lv) := by unfold adv; rw [if_pos h1]
    rw [e] at q
    refine itT (by rw [h1]) ⟨_, rfl, _, rfl, x, CTok, dx, _, _, rfl, hx, F_Token.cl, gN, tokF_number _ _ _, st, k.num, rfl, ?_⟩
    exact ⟨_, rfl, two _ rfl, q⟩
  refine itF (ne h1) ⟨_, rfl, x, CTok, dx, _, _, rfl, hx, F_Token.cl, gK, tokF_kind _ _ _, rfl, _, rfl, ?_⟩
  -- the last two tests, from the kind's point of view
  by_cases h91 : k.kind = 91
  · have last : ¬ (st = 0 ∨ st = 2) → adv st lv k = (4, lv) := fun h => by
      unfold adv
      rw [if_neg h1, if_neg (fun z => h z.2), if_neg (fun z => by omega), if_neg (fun z => by omega)]
    have yes : (st = 0 ∨ st = 2) → adv st lv k = (1, lv + 1) := fun h => by
      unfold adv
      rw [if_neg h1, if_pos ⟨h91, h⟩]
    refine itT (by rw [h91]) ⟨_, rfl, rfl, _, rfl, ?_⟩
    by_cases h0 : st = 0
    · rw [yes (.inl h0)] at q
      exact itT (by rw [h0]) (iteT ⟨_, rfl, _, _, rfl, rfl, two _ rfl, q⟩)
    refine itF (ne h0) ⟨_, rfl, rfl, _, rfl, ?_⟩
    by_cases h2 : st = 2
    · rw [yes (.inr h2)] at q
      exact itT (by rw [h2]) ⟨_, rfl, _, _, rfl, rfl, two _ rfl, q⟩
    rw [last (by omega)] at q
    refine itF (ne h2) ?_
    refine ⟨_, rfl, x, CTok, dx, _, _, rfl, hx, F_Token.cl, gK, tokF_kind _ _ _, rfl, _, rfl, itF (ne (by omega)) (iteF ?_)⟩
    refine ⟨_, rfl, x, CTok, dx, _, _, rfl, hx, F_Token.cl, gK, tokF_kind _ _ _, rfl, _, rfl, itF (ne (by omega)) (iteF ?_)⟩
    exact ⟨_, rfl, two _ rfl, q⟩
  refine itF (ne h91) (iteF ⟨_, rfl, x, CTok, dx, _, _, rfl, hx, F_Token.cl, gK, tokF_kind _ _ _, rfl, _, rfl, ?_⟩)
  by_cases h58 : k.kind = 58
  · refine itT (by rw [h58]) ⟨_, rfl, rfl, _, rfl, ?_⟩
    by_cases hs : st = 1
    · have e : adv st lv k = (2, lv) := by
        unfold adv
        rw [if_neg h1, if_neg (fun z => h91 z.1), if_pos ⟨h58, hs⟩]
      rw [e] at q
      exact itT (by rw [hs]) ⟨_, rfl, two _ rfl, q⟩
    · have e : adv st lv k = (4, lv) := by
        unfold adv
        rw [if_neg h1, if_neg (fun z => h91 z.1), if_neg (fun z => hs z.2), if_neg (fun z => by omega)]
      rw [e] at q
      refine itF (ne hs) ?_
      refine ⟨_, rfl, x, CTok, dx, _, _, rfl, hx, F_Token.cl, gK, tokF_kind _ _ _, rfl, _, rfl, itF (ne (by omega)) (iteF ?_)⟩
      exact ⟨_, rfl, two _ rfl, q⟩
  refine itF (ne h58) (iteF ⟨_, rfl, x, CTok, dx, _, _, rfl, hx, F_Token.cl, gK, tokF_kind _ _ _, rfl, _, rfl, ?_⟩)
  have e0 : adv st lv k = if k.kind = 93 ∧ st = 2 then (afterCl (lv - 1), lv - 1) else (4, lv) := by
    unfold adv
    rw [if_neg h1, if_neg (fun z => h91 z.1), if_neg (fun z => h58 z.1)]
  rw [e0] at q
  by_cases h93 : k.kind = 93
  · refine itT (by rw [h93]) ⟨_, rfl, rfl, _, rfl, ?_⟩
    by_cases hs : st = 2
    · rw [if_pos ⟨h93, hs⟩] at q
      exact itT (by rw [hs]) ⟨_, rfl, _, _, rfl, rfl, _, rfl, _, rfl, _, _, rfl, rfl, two _ rfl, q⟩
    · rw [if_neg (fun z => hs z.2)] at q
      exact itF (ne hs) ⟨_, rfl, two _ rfl, q⟩
  · rw [if_neg (fun z => h93 z.1)] at q
    exact itF (ne h93) (iteF ⟨_, rfl, two _ rfl, q⟩)
end
end N
namespace N
open PySem L2
/-- the values stand for these tokens -/
def TokVs (C : Addr) (H : Hp) (us : List V) (ks : List Tk) : Prop := Paired (TokV C H) us ks
theorem TokVs.mono {C : Addr} {H H' : Hp} (e : Same H H') : ∀ {us : List V} {ks : List Tk}, TokVs C H us ks → TokVs C H' us ks
  | _, _, .nil => .nil
  | _, _, .cons a b => .cons (a.mono e) (TokVs.mono e b)
theorem Paired.snoc {α β : Type} {R : α → β → Prop} : ∀ {xs : List α} {ys : List β} {x : α} {y : β}, Paired R xs ys → R x y → Paired R (xs ++ [x]) (ys ++ [y])
  | _, _, _, _, .nil, h => .cons h .nil
  | _, _, _, _, .cons a b, h => .cons a (Paired.snoc b h)
/-- scan(text): the tokens and the fault -/
def spScan (K : PySem.W.Frag) (C : Addr) : Sp := fun vs H Q _ => ∃ (a : Addr) (t : List Nat), vs = [.ref a] ∧ SqL K H a (Bs t) ∧ t.length ≤ 100000 ∧
  ∀ (p l : Addr) (us : List V) (H' : Hp), Same H H' → H' p = some (.tup [.ref l, .int (scanAll t).2]) → H' l = some (.lst us) → TokVs C H' us (scanAll t).1 → Q (.ref p) H'
section
variable {P : Program} {w : World} {K : PySem.W.Frag} {mg : Str → Option Value} {base : Heap} {CTok : Addr}
theorem sc_scan : FnScope ["text", "tokens", "state", "level", "at", "token"] ["text"] (defScope sScan) := ⟨rfl, rfl, rfl, by decide +kernel, rfl, by decide +kernel, by decide +kernel⟩
theorem ok_scan (T : Top1 K mg "scan" sScan ["text"]) (c_DONE : CI mg "DONE" 3) (c_FAULT : CI mg "FAULT" 4) (c_START : CI mg "START" 0) (b_len : mg "len" = none) (F_Token : ClF K CTok ["kind", "number", "stop"]) (D_skip_blanks : Def P w K mg base CX0 "skip_blanks" 1 ["text", "at"] (spSkip K)) (D_advance : Def P w K mg base CX0 "advance" 2 ["state", "level", "token"] (spAdvance CTok)) (D_read_token : Def P w K mg base CX0 "read_token" 4 ["text", "at"] (spReadTok K CTok)) : Def P w K mg base CX0 "scan" 5 ["text"] (spScan K CTok) := by
  refine T.ok sc_scan (fun vs H Q E h => ?_) (fun f cdv A outer s H vs Q E hr h => ?_)
  · obtain ⟨a, t, rfl, _⟩ := h
    rfl
  obtain ⟨a, t, rfl, hS, hz, q⟩ := h
  refine ⟨_, (pss_cons (ps_set (i := 1) sc_scan.nd rfl (Or.inl rfl) (pe_lst pa_nil)) (pss_cons (ps_set (i := 2) sc_scan.nd rfl (Or.inl rfl) (pe_ci c_START)) (pss_cons (ps_set (i := 3) sc_scan.nd rfl (Or.inl rfl) pe_int) (pss_cons (ps_set (i := 4) sc_scan.nd rfl (Or.inl rfl) (pe_fn D_skip_blanks (hr.mono (by decide)) pass0 (pa_cons (pv 0) (pa_cons pe_int pa_nil)))) (pss_cons (ps_while PassesOwn.never (pt_cmpR op_lt (pv 4) (pe_callB call_len_seq (by rfl) b_len (by decide +kernel) (pa_cons (pv 0) pa_nil)) (nomark _)) (pss_cons (ps_set (i := 5) sc_scan.nd rfl (Or.inl rfl) (pe_fn D_read_token (hr.mono (by decide)) pass0 (pa_cons (pv 0) (pa_cons (pv 4) pa_nil)))) (pss_cons (ps_asg (pe_fn D_advance (hr.mono (by decide)) pass0 (pa_cons (pv 2) (pa_cons (pv 3) (pa_cons (pv 5) pa_nil)))) (pg_tup rfl (pgs_cons (pg_name (i := 2) sc_scan.nd rfl (Or.inl rfl)) (pgs_cons (pg_name (i := 3) sc_scan.nd rfl (Or.inl rfl)) pgs_nil)))) (pss_cons (ps_if (pt_cmpR op_eq (pv 2) (pe_ci c_FAULT) (nomark _)) (pss_one (ps_ret (pe_tup (pa_cons (pv 1) (pa_cons (pv 4) pa_nil))))) pss_nil) (pss_cons (ps_expr (pe_bm PySem.F.plainAttrs_list PySem.F.slot_list_append PySem.F.type_list_append mt_append (pv 1) (pa_cons (pv 5) pa_nil))) (pss_one (ps_set (i := 4) sc_scan.nd rfl (Or.inl rfl) (pe_fn D_skip_blanks (hr.mono (by decide)) pass0 (pa_cons (pv 0) (pa_cons (pe_fld (pv 5) rfl) pa_nil)))))))))) (pss_cons (ps_if (pt_cmpR op_ne (pv 2) (pe_ci c_DONE) (nomark _)) (pss_one (ps_ret (pe_tup (pa_cons (pv 1) (pa_cons (pe_callB call_len_seq (by rfl) b_len (by decide +kernel) (pa_cons (pv 0) pa_nil)) pa_nil))))) pss_nil) (pss_one (ps_ret (pe_tup (pa_cons (pv 1) (pa_cons (pe_un un_neg pe_int) pa_nil))))))))))), ?_⟩
  have two : ∀ xs : List V, xs.length = 2 → xs.length ≤ sizeLine := fun xs h => by rw [h]; decide
  refine ⟨Nat.zero_le _, fun l hl => ?_⟩
  have s0 : Same H (upd H l (.lst [])) := same_new hl _
  refine ⟨_, rfl, a, t, 0, rfl, s0.seq hS, hz, Nat.zero_le _, ?_⟩
  refine ⟨fun m σ H' => ∃ (at_ : Nat) (st lv : Int) (us : List V) (acc : List Tk) (v : Option V), σ = [some (.ref a), some (.ref l), some (.int st), some (.int lv), some (.int (at_ : Int)), v] ∧ Same H H' ∧ H' l = some (.lst us) ∧ TokVs CTok H' us acc ∧
      t.length + 1 ≤ at_ + m ∧ at_ ≤ t.length ∧ acc.length + m ≤ t.length + 1 ∧ 0 < m ∧ scanF m t at_ st lv acc = scanAll t, ⟨t.length + 1, ?_⟩, ?_⟩
  · refine ⟨_, _, _, _, [], none, rfl, s0, upd_same, .nil, by omega, ?_, by simp, by omega, ?_⟩
    · have := runLen_le isBlank t
      simpa using this
    · unfold scanAll
      simp
  rintro m σ H1 ⟨at_, st, lv, us, acc, v, rfl, s1, hl1, hT, hm, hat, hacc, hpos, hF⟩
  obtain ⟨m, rfl⟩ : ∃ m', m = m' + 1 := ⟨m - 1, by omega⟩
  refine ⟨_, rfl, _, rfl, a, _, rfl, .inl (s1.seq hS), _, _, rfl, rfl, _, rfl, ?_⟩
  rw [Bs_len]
  unfold scanF at hF
  by_cases hlt : at_ < t.length
  · rw [if_pos hlt] at hF
    refine itT (by omega) ⟨fun σ' H' => _, fun σ' H' h => ⟨m, Nat.lt_succ_self _, h⟩, ?_⟩
    refine ⟨_, rfl, _, rfl, a, t, at_, rfl, s1.seq hS, hz, hlt, fun x H2 s2 hx => ?_⟩
    refine ⟨_, rfl, _, rfl, _, rfl, st, lv, x, _, rfl, hx, fun p hp => ?_⟩
    have s3 : Same H2 (upd H2 p (.tup [.int (adv st lv (tokOf (t.drop at_) at_)).1, .int (adv st lv (tokOf (t.drop at_) at_)).2])) := same_new hp _
    refine ⟨p, _, rfl, SqT.of upd_same, rfl, _, _, rfl, _, _, rfl, rfl, ?_⟩
    refine ⟨_, rfl, rfl, _, rfl, ?_⟩
    dsimp only at hF
    by_cases h4 : (adv st lv (tokOf (t.drop at_) at_)).1 = 4
    · rw [if_pos h4] at hF
      refine itT (by rw [h4]) ⟨_, rfl, _, rfl, two _ rfl, fun r hr' => ?_⟩
      have e : scanAll t = (acc, (at_ : Int)) := hF.symm
      have s4 := same_new hr' (.tup [.ref l, .int (at_ : Int)])
      rw [e] at q
      exact q r l us _ (s1.trans (s2.trans (s3.trans s4))) upd_same (s4 _ _ (s3 _ _ (s2 _ _ hl1))) (((hT.mono s2).mono s3).mono s4)
    · rw [if_neg h4] at hF
      obtain ⟨x', dx, rfl, hx'⟩ := hx
      have hst := (tokOf_stop hlt).resolve_left fun z => h4 (adv_zero _ _ _ z)
      obtain ⟨s', e1, e2, e3⟩ := hst
      have hlen : us.length = acc.length := Paired.length hT
      have nlx : x' ≠ l := ne_of (s3 _ _ hx') (s3 _ _ (s2 _ _ hl1)) (by intro z; cases z)
      refine itF (fun z => h4 (V.int.inj z)) ⟨_, rfl, .inl ⟨rfl, _, SqL.of (s3 _ _ (s2 _ _ hl1))⟩, _, rfl, l, us, _, rfl, rfl, s3 _ _ (s2 _ _ hl1), ?_, ?_⟩
      · exact Nat.lt_of_le_of_lt (show us.length ≤ 200000 by omega) (by decide)
      have s5 : Same H (upd (upd H2 p (.tup [.int (adv st lv (tokOf (t.drop at_) at_)).1, .int (adv st lv (tokOf (t.drop at_) at_)).2])) l (.lst (us ++ [.ref x']))) := Same.mut (s1.trans (s2.trans s3)) hl
      have hx5 := hx'
      refine ⟨_, rfl, _, rfl, x', CTok, dx, _, _, rfl, Eq.trans (upd_ne nlx) (s3 _ _ hx'), F_Token.cl, F_Token.no "stop" (by simp), tokF_stop _ _ _, a, t, s', ?_, s5.seq hS, hz, e3, ?_⟩
      · rw [e1]
        rfl
      rw [e1, Int.toNat_natCast] at hF
      refine ⟨_, _, _, us ++ [.ref x'], acc ++ [tokOf (t.drop at_) at_], some (.ref x'), rfl, s5, upd_same, ?_, ?_, ?_, ?_, ?_, hF⟩
      · have old : ∀ {ws : List V} {ks : List Tk}, TokVs CTok H1 ws ks → TokVs CTok (upd (upd H2 p (.tup [.int (adv st lv (tokOf (t.drop at_) at_)).1, .int (adv st lv (tokOf (t.drop at_) at_)).2])) l (.lst (us ++ [.ref x']))) ws ks := by
          intro ws ks h
          induction h with
          | nil => exact .nil
          | cons a' _ ih =>
            obtain ⟨y, dy, ey, hy⟩ := a'
            refine .cons ⟨y, dy, ey, ?_⟩ ih
            rw [upd_ne (ne_of hy hl1 (by intro z; cases z))]
            exact s3 _ _ (s2 _ _ hy)
        refine Paired.snoc (old hT) ⟨x', dx, rfl, ?_⟩
        rw [upd_ne nlx]
        exact s3 _ _ hx'
      · have := runLen_le isBlank (t.drop s')
        omega
      · have := runLen_le isBlank (t.drop s')
        rw [List.length_drop] at this
        omega
      · rw [List.length_append, List.length_singleton]
        omega
      · have := runLen_le isBlank (t.drop s')
        rw [List.length_drop] at this
        omega
  · rw [if_neg hlt] at hF
    refine itF (by omega) ⟨_, rfl, rfl, _, rfl, ?_⟩
    by_cases h3 : st = 3
    · rw [if_pos h3] at hF
      have e3 : decide (V.int st = V.int 3) = true := decide_eq_true (by rw [h3])
      rw [e3]
      refine iteF ⟨_, rfl, _, rfl, two _ rfl, fun r hr' => ?_⟩
      have s4 := same_new hr' (.tup [.ref l, .int (-1)])
      rw [← hF] at q
      exact q r l us _ (s1.trans s4) upd_same (s4 _ _ hl1) (hT.mono s4)
    · rw [if_neg h3] at hF
      have e3 : decide (V.int st = V.int 3) = false := decide_eq_false (fun z => h3 (V.int.inj z))
      rw [e3]
      refine iteT ⟨_, rfl, _, rfl, a, _, rfl, .inl (s1.seq hS), two _ rfl, fun r hr' => ?_⟩
      rw [Bs_len]
      have s4 := same_new hr' (.tup [.ref l, .int ((t.length : Nat) : Int)])
      rw [← hF] at q
      exact q r l us _ (s1.trans s4) upd_same (s4 _ _ hl1) (hT.mono s4)
end
end N
/-! ### Plain Lean: the scan against the specification's reading -/
namespace N
open Vaarrm (Told Token Toks tokensIn tokens extents values readTold here)
/-- the specification's tokens of a suffix, with fuel enough -/
def TS (whole : Nat) (l : List Nat) : Vaarrm.Toks := tokensIn whole (l.length + 1) l
theorem spec_blank (c : Nat) : Vaarrm.blank c = isBlank c := rfl
theorem spec_digit (c : Nat) : Vaarrm.digit c = isDigit c := rfl
theorem dropWhile_len {p : Nat → Bool} : ∀ l : List Nat, (l.dropWhile p).length ≤ l.length
  | [] => Nat.le_refl _
  | a :: l => by
    by_cases h : p a = true
    · rw [List.dropWhile_cons_of_pos h]
      exact Nat.le_succ_of_le (dropWhile_len l)
    · rw [List.dropWhile_cons_of_neg h]
      exact Nat.le_refl _
theorem dropWhile_drop {p : Nat → Bool} : ∀ l : List Nat, l.dropWhile p = l.drop (runLen p l)
  | [] => rfl
  | a :: l => by
    unfold runLen
    by_cases h : p a = true
    · rw [List.dropWhile_cons_of_pos h, List.takeWhile_cons_of_pos h, dropWhile_drop l]
      rfl
    · rw [List.dropWhile_cons_of_neg h, List.takeWhile_cons_of_neg h]
      rfl
/-- what a number's token at c :: r leaves -/
def restOf (c : Nat) (r : List Nat) : List Nat := if c = 95 then r.dropWhile isDigit else (c :: r).dropWhile isDigit
theorem restOf_len (c : Nat) (r : List Nat) (h : goodDig (digs (c :: r)) (c == 95) = true) : (restOf c r).length ≤ r.length := by
  unfold restOf
  by_cases hc : c = 95
  · rw [if_pos hc]
    exact dropWhile_len r
  · rw [if_neg hc]
    have e : digs (c :: r) = (c :: r).takeWhile isDigit := by
      unfold digs
      rw [if_neg (by intro z; exact hc (Option.some.inj z))]
    rw [e] at h
    by_cases hd : isDigit c = true
    · rw [List.dropWhile_cons_of_pos hd]
      exact dropWhile_len r
    · rw [List.takeWhile_cons_of_neg hd] at h
      cases h
theorem good_iff (c : Nat) (r : List Nat) : ((c = 95 ∨ Vaarrm.digit c = true) ∧ (digs (c :: r)).isEmpty = false ∧ ((digs (c :: r)).length = 1 ∨ (digs (c :: r)).head? ≠ some 48) ∧ ¬ (c = 95 ∧ digs (c :: r) = [48])) ↔ goodDig (digs (c :: r)) (c == 95) = true := by
  have hdig : (digs (c :: r)).isEmpty = false → c = 95 ∨ Vaarrm.digit c = true := fun h => by
    by_cases hc : c = 95
    · exact .inl hc
    · refine .inr ?_
      unfold digs at h
      rw [if_neg (by intro z; exact hc (Option.some.inj z))] at h
      by_cases hd : isDigit c = true
      · exact hd
      · rw [List.takeWhile_cons_of_neg hd] at h
        cases h
  generalize digs (c :: r) = ds at *
  unfold goodDig
  cases ds with
  | nil => simp
  | cons d ds =>
    have h95 : (c = 95 ∨ Vaarrm.digit c = true) := hdig rfl
    by_cases hd : d = 48
    · subst hd
      cases ds with
      | nil =>
        by_cases hc : c = 95
        · subst hc; simp
        · simp [hc]
          exact h95.resolve_left hc
      | cons e ds => simp
    · simp [hd, h95]
theorem tokensIn_raw (whole k c : Nat) (r : List Nat) : tokensIn whole (k + 1) (c :: r) =
    if Vaarrm.blank c = true then tokensIn whole k r
    else if c = 91 ∨ c = 58 ∨ c = 93 then (whole - (r.length + 1), .sign c) :: tokensIn whole k r
    else if (c = 95 ∨ Vaarrm.digit c = true) ∧ (if c = 95 then r.takeWhile Vaarrm.digit else (c :: r).takeWhile Vaarrm.digit).isEmpty = false ∧ ((if c = 95 then r.takeWhile Vaarrm.digit else (c :: r).takeWhile Vaarrm.digit).length = 1 ∨ (if c = 95 then r.takeWhile Vaarrm.digit else (c :: r).takeWhile Vaarrm.digit).head? ≠ some 48) ∧ ¬ (c = 95 ∧ (if c = 95 then r.takeWhile Vaarrm.digit else (c :: r).takeWhile Vaarrm.digit) = [48]) then
      (whole - (r.length + 1), .num (if c = 95 then -((Vaarrm.valueOf (if c = 95 then r.takeWhile Vaarrm.digit else (c :: r).takeWhile Vaarrm.digit) : Nat) : Int) else ((Vaarrm.valueOf (if c = 95 then r.takeWhile Vaarrm.digit else (c :: r).takeWhile Vaarrm.digit) : Nat) : Int))) :: tokensIn whole k (if c = 95 then r.dropWhile Vaarrm.digit else (c :: r).dropWhile Vaarrm.digit)
    else [(whole - (r.length + 1), .none)] := rfl
theorem tokensIn_step (whole k c : Nat) (r : List Nat) : tokensIn whole (k + 1) (c :: r) =
    if isBlank c = true then tokensIn whole k r
    else if isSign c = true then (whole - (r.length + 1), .sign c) :: tokensIn whole k r
    else if goodDig (digs (c :: r)) (c == 95) = true then (whole - (r.length + 1), .num (if c = 95 then -((Vaarrm.valueOf (digs (c :: r)) : Nat) : Int) else ((Vaarrm.valueOf (digs (c :: r)) : Nat) : Int))) :: tokensIn whole k (restOf c r)
    else [(whole - (r.length + 1), .none)] := by
  have e1 : (if c = 95 then r.takeWhile Vaarrm.digit else (c :: r).takeWhile Vaarrm.digit) = digs (c :: r) := by
    unfold digs
    by_cases hc : c = 95
    · rw [if_pos hc, if_pos (by rw [hc]; rfl)]
      rfl
    · rw [if_neg hc, if_neg (by intro z; exact hc (Option.some.inj z))]
      rfl
  have e2 : (if c = 95 then r.dropWhile Vaarrm.digit else (c :: r).dropWhile Vaarrm.digit) = restOf c r := rfl
  rw [tokensIn_raw, e1, e2]
  have es : (c = 91 ∨ c = 58 ∨ c = 93) ↔ isSign c = true := by unfold isSign; simp
  simp only [spec_blank, es, good_iff]
/-- fuel enough is enough -/
theorem tokensIn_any (whole : Nat) : ∀ (n : Nat) (l : List Nat) (k : Nat), l.length ≤ n → l.length + 1 ≤ k → tokensIn whole k l = TS whole l
  | _, [], k, _, h => by
    obtain ⟨k, rfl⟩ : ∃ j, k = j + 1 := ⟨k - 1, by omega⟩
    rfl
  | 0, _ :: _, _, h, _ => by simp at h
  | n + 1, c :: r, k, hn, hk => by
    obtain ⟨k, rfl⟩ : ∃ j, k = j + 1 := ⟨k - 1, by omega⟩
    rw [List.length_cons] at hn hk
    unfold TS
    rw [List.length_cons, tokensIn_step, tokensIn_step]
    have a1 := tokensIn_any whole n r k (by omega) (by omega)
    have a2 := tokensIn_any whole n r (r.length + 1) (by omega) (by omega)
    rw [a1, a2]
    by_cases g : goodDig (digs (c :: r)) (c == 95) = true
    · have hl := restOf_len c r g
      have b1 := tokensIn_any whole n (restOf c r) k (by omega) (by omega)
      have b2 := tokensIn_any whole n (restOf c r) (r.length + 1) (by omega) (by omega)
      rw [b1, b2]
    · rw [if_neg g, if_neg g]
theorem TS_nil (whole : Nat) : TS whole [] = [(whole, .none)] := rfl
theorem TS_cons (whole c : Nat) (r : List Nat) : TS whole (c :: r) =
    if isBlank c = true then TS whole r
    else if isSign c = true then (whole - (r.length + 1), .sign c) :: TS whole r
    else if goodDig (digs (c :: r)) (c == 95) = true then (whole - (r.length + 1), .num (if c = 95 then -((Vaarrm.valueOf (digs (c :: r)) : Nat) : Int) else ((Vaarrm.valueOf (digs (c :: r)) : Nat) : Int))) :: TS whole (restOf c r)
    else [(whole - (r.length + 1), .none)] := by
  show tokensIn whole (r.length + 1 + 1) (c :: r) = _
  rw [tokensIn_step]
  by_cases g : goodDig (digs (c :: r)) (c == 95) = true
  · have hl := restOf_len c r g
    rw [tokensIn_any whole (r.length + 1) (restOf c r) (r.length + 1) (by omega) (by omega)]
    rfl
  · rw [if_neg g, if_neg g]
    rfl
theorem TS_blanks (whole : Nat) : ∀ l : List Nat, TS whole l = TS whole (l.drop (runLen isBlank l))
  | [] => rfl
  | c :: r => by
    by_cases h : isBlank c = true
    · have e : runLen isBlank (c :: r) = runLen isBlank r + 1 := by
        unfold runLen
        rw [List.takeWhile_cons_of_pos h]
        rfl
      rw [TS_cons, if_pos h, e, List.drop_succ_cons]
      exact TS_blanks whole r
    · have e : runLen isBlank (c :: r) = 0 := by
        unfold runLen
        rw [List.takeWhile_cons_of_neg h]
        rfl
      rw [e]
      rfl
/-- held at both ends -/
def heldZ (n : Int) : Int := if 1000000000000000001 < n then 1000000000000000001 else if n < -1000000000000000001 then -1000000000000000001 else n
theorem heldNum_value : ∀ (l : List Nat) (n : Int) (m : Nat), (∀ c ∈ l, isDigit c = true) → n = held (m : Int) → l.foldl (fun (n : Int) (c : Nat) => held (n * 10 + (c : Int) - 48)) n = held ((l.foldl (fun n c => 10 * n + (c - 48)) m : Nat) : Int)
  | [], n, m, _, h => h
  | c :: l, n, m, hd, h => by
    have hc : 48 ≤ c ∧ c ≤ 57 := of_decide_eq_true (hd c List.mem_cons_self)
    rw [List.foldl_cons, List.foldl_cons]
    refine heldNum_value l _ _ (fun x hx => hd x (List.mem_cons_of_mem _ hx)) ?_
    rw [h]
    unfold held
    split <;> split <;> split <;> omega
theorem heldNum_is (l : List Nat) (hd : ∀ c ∈ l, isDigit c = true) : heldNum l = held ((Vaarrm.valueOf l : Nat) : Int) := heldNum_value l 0 0 hd (by unfold held; rw [if_neg (by omega)]; rfl)
theorem digs_all (l : List Nat) : ∀ c ∈ digs l, isDigit c = true := fun c h => by
  unfold digs at h
  split at h
  · exact takeWhile_all _ _ h
  · exact takeWhile_all _ _ h
/-- one token of the scan against one of the specification; l not empty, its head no blank -/
inductive TokIs (whole : Nat) (l : List Nat) (k : Nat) : Prop
  | none (h : tokOf l k = ⟨0, 0, (k : Int)⟩) (e : TS whole l = [(k, .none)])
  | sign (c : Nat) (hc : c = 91 ∨ c = 58 ∨ c = 93) (h : tokOf l k = ⟨(c : Int), 0, ((k + 1 : Nat) : Int)⟩) (e : TS whole l = (k, .sign c) :: TS whole (l.drop 1))
  | num (n : Int) (s : Nat) (h : tokOf l k = ⟨1, heldZ n, ((k + s : Nat) : Int)⟩) (hs : 0 < s) (hl : s ≤ l.length) (e : TS whole l = (k, .num n) :: TS whole (l.drop s))
theorem tok_is (whole c : Nat) (r : List Nat) (hb : isBlank c = false) (hw : r.length + 1 ≤ whole) : TokIs whole (c :: r) (whole - (r.length + 1)) := by
  have eT := TS_cons whole c r
  rw [if_neg (by rw [hb]; exact Bool.false_ne_true)] at eT
  by_cases hs : isSign c = true
  · rw [if_pos hs] at eT
    refine .sign c (by unfold isSign at hs; simpa using hs) ?_ eT
    unfold tokOf
    simp only [hs, if_true]
    rfl
  rw [if_neg hs] at eT
  have hT : tokOf (c :: r) (whole - (r.length + 1)) = tokNum (c :: r) (whole - (r.length + 1)) := by
    unfold tokOf
    simp only [hs, if_false]
    rfl
  have hh : ((c :: r).head? == some 95) = (c == 95) := by
    by_cases hc : c = 95
    · subst hc; rfl
    · rw [beq_eq_false_iff_ne.mpr hc]
      exact beq_eq_false_iff_ne.mpr fun z => hc (Option.some.inj z)
  have hi : ∀ (a b : Int), (if (c :: r).head? = some 95 then a else b) = if c = 95 then a else b := fun a b => by
    by_cases hc : c = 95
    · rw [if_pos hc, if_pos (by rw [hc]; rfl)]
    · rw [if_neg hc, if_neg (by intro z; exact hc (Option.some.inj z))]
  have hin : ∀ (a b : Nat), (if (c :: r).head? = some 95 then a else b) = if c = 95 then a else b := fun a b => by
    by_cases hc : c = 95
    · rw [if_pos hc, if_pos (by rw [hc]; rfl)]
    · rw [if_neg hc, if_neg (by intro z; exact hc (Option.some.inj z))]
  by_cases g : goodDig (digs (c :: r)) (c == 95) = true
  · rw [if_pos g] at eT
    have er : restOf c r = (c :: r).drop ((if c = 95 then 1 else 0) + (digs (c :: r)).length) := by
      unfold restOf digs
      by_cases hc : c = 95
      · rw [if_pos hc, if_pos hc, if_pos (by rw [hc]; rfl), Nat.add_comm, List.drop_succ_cons, dropWhile_drop]
        rfl
      · rw [if_neg hc, if_neg hc, if_neg (by intro z; exact hc (Option.some.inj z)), Nat.zero_add, dropWhile_drop]
        rfl
    have hle := restOf_len c r g
    have hle' : (if c = 95 then 1 else 0) + (digs (c :: r)).length ≤ (c :: r).length := by
      rw [List.length_cons]
      unfold digs
      by_cases hc : c = 95
      · rw [if_pos hc, if_pos (by rw [hc]; rfl)]
        have := takeWhile_len (p := isDigit) r
        show 1 + (r.takeWhile isDigit).length ≤ _
        omega
      · rw [if_neg hc, if_neg (by intro z; exact hc (Option.some.inj z))]
        have := takeWhile_len (p := isDigit) (c :: r)
        rw [List.length_cons] at this
        omega
    have hpos : 0 < (digs (c :: r)).length := by
      unfold goodDig at g
      cases e : digs (c :: r) with
      | nil =>
        rw [e] at g
        cases g
      | cons _ _ => exact Nat.succ_pos _
    refine .num _ ((if c = 95 then 1 else 0) + (digs (c :: r)).length) ?_ (by omega) hle' (by rw [eT, er])
    rw [hT]
    unfold tokNum
    rw [hh, if_pos g, hi, hin, heldNum_is _ (digs_all _)]
    congr 1
    · unfold held heldZ
      by_cases hc : c = 95
      · rw [if_pos hc, if_pos hc]
        split <;> (try split) <;> (try split) <;> omega
      · rw [if_neg hc, if_neg hc]
        split <;> (try split) <;> omega
    · rw [Nat.add_assoc]
  · rw [if_neg g] at eT
    refine .none ?_ eT
    rw [hT]
    unfold tokNum
    rw [hh, if_neg g]
end N
namespace N
open Vaarrm (Told Token Toks tokensIn tokens extents values readTold here)
/-- kind and number of each token of a value that is told, in order -/
abbrev KN := Int × Int
def nums (s : List Int) : List KN := s.map fun n => (1, heldZ n)
mutual
def lin : Told → List KN
  | .num n => [(1, heldZ n)]
  | .arr s l => (91, 0) :: (nums s ++ (58, 0) :: (linL l ++ [(93, 0)]))
def linL : List Told → List KN
  | [] => []
  | x :: l => lin x ++ linL l
end
theorem linL_cons (x : Told) (l : List Told) : linL (x :: l) = lin x ++ linL l := rfl
theorem lin_arr (s : List Int) (l : List Told) : lin (.arr s l) = (91, 0) :: (nums s ++ (58, 0) :: (linL l ++ [(93, 0)])) := rfl
theorem linL_append : ∀ l m : List Told, linL (l ++ m) = linL l ++ linL m
  | [], m => by simp [linL]
  | x :: l, m => by
    show lin x ++ linL (l ++ m) = (lin x ++ linL l) ++ linL m
    rw [linL_append l m, List.append_assoc]
/-- .. of the arrays begun -/
def linO : List (List Int × List Told) → List KN
  | [] => []
  | (s, l) :: o => linO o ++ (91, 0) :: (nums s ++ (58, 0) :: linL l.reverse)
theorem linO_cons (s : List Int) (l : List Told) (o : List (List Int × List Told)) : linO ((s, l) :: o) = linO o ++ (91, 0) :: (nums s ++ (58, 0) :: linL l.reverse) := rfl
theorem linO_push (s : List Int) (l : List Told) (o : List (List Int × List Told)) (x : Told) : linO ((s, x :: l) :: o) = linO ((s, l) :: o) ++ lin x := by
  rw [linO_cons, linO_cons, List.reverse_cons, linL_append]
  simp [linL]
theorem linO_close (s : List Int) (l : List Told) (o : List (List Int × List Told)) : linO ((s, l) :: o) ++ [(93, 0)] = linO o ++ lin (.arr s l.reverse) := by
  rw [linO_cons, lin_arr]
  simp
def kn (k : Tk) : KN := (k.kind, k.num)
def Agree (res : List Tk × Int) : Except Nat Told → Prop
  | .error p => res.2 = (p : Int)
  | .ok x => res.2 = -1 ∧ res.1.map kn = lin x
/-- what is left behind the value -/
def finT (whole : Nat) (x : Told × Toks) : Except Nat Told := match x.2 with
  | (p, .none) :: _ => if p = whole then .ok x.1 else .error p
  | ts => .error (here ts)
def R2 (whole K : Nat) (o : List (List Int × List Told)) (ts : Toks) : Except Nat Told := match values K o ts with
  | .error e => .error e
  | .ok x => finT whole x
def R1 (whole K : Nat) (es : List Int) (o : List (List Int × List Told)) (ts : Toks) : Except Nat Told := match extents ts with
  | .error e => .error e
  | .ok x => R2 whole K ((es ++ x.1, []) :: o) x.2
theorem readTold_is (t : List Nat) : readTold t = R2 t.length (t.length + 2) [] (TS t.length t) := by
  unfold readTold R2 TS tokens
  cases values (t.length + 2) [] (tokensIn t.length (t.length + 1) t) with
  | error e => rfl
  | ok x => rfl
theorem nostart (l : List Nat) (h : ∀ c r, l.drop (runLen isBlank l) = c :: r → isBlank c = false → True) : True := trivial
theorem head_run {p : Nat → Bool} : ∀ l : List Nat, ∀ c r, l.drop (runLen p l) = c :: r → p c = false
  | [], c, r, h => by simp at h
  | a :: l, c, r, h => by
    unfold runLen at h
    by_cases ha : p a = true
    · rw [List.takeWhile_cons_of_pos ha, List.length_cons, List.drop_succ_cons] at h
      exact head_run l c r h
    · rw [List.takeWhile_cons_of_neg ha] at h
      have e : a = c := (List.cons.inj h).1
      rw [← e]
      exact Bool.eq_false_iff.mpr ha
theorem values_end (whole K : Nat) (o : List (List Int × List Told)) (p : Nat) (ts : Toks) : R2 whole (K + 1) o ((p, .none) :: ts) = .error p := rfl
theorem values_num0 (whole K : Nat) (p : Nat) (n : Int) (ts : Toks) : R2 whole (K + 1) [] ((p, .num n) :: ts) = finT whole (.num n, ts) := rfl
theorem values_num (whole K : Nat) (s : List Int) (l : List Told) (o : List (List Int × List Told)) (p : Nat) (n : Int) (ts : Toks) (h : ts ≠ []) : R2 whole (K + 1) ((s, l) :: o) ((p, .num n) :: ts) = R2 whole K ((s, .num n :: l) :: o) ts := by
  have e : ts.isEmpty = false := by
    cases ts with
    | nil => exact absurd rfl h
    | cons _ _ => rfl
  unfold R2
  conv => lhs; unfold values
  simp only [e]
  rfl
theorem values_open (whole K : Nat) (o : List (List Int × List Told)) (p : Nat) (ts : Toks) : R2 whole (K + 1) o ((p, .sign 91) :: ts) = R1 whole K [] o ts := by
  unfold R1 R2
  conv => lhs; unfold values
  simp only [if_pos]
  cases extents ts with
  | error e => rfl
  | ok x => simp
theorem values_close0 (whole K : Nat) (p : Nat) (ts : Toks) : R2 whole (K + 1) [] ((p, .sign 93) :: ts) = .error p := rfl
theorem values_close1 (whole K : Nat) (s : List Int) (l : List Told) (p : Nat) (ts : Toks) : R2 whole (K + 1) [(s, l)] ((p, .sign 93) :: ts) = finT whole (.arr s l.reverse, ts) := rfl
theorem values_close (whole K : Nat) (s u : List Int) (l m : List Told) (o : List (List Int × List Told)) (p : Nat) (ts : Toks) : R2 whole (K + 1) ((s, l) :: (u, m) :: o) ((p, .sign 93) :: ts) = R2 whole K ((u, .arr s l.reverse :: m) :: o) ts := rfl
theorem values_colon (whole K : Nat) (o : List (List Int × List Told)) (p : Nat) (ts : Toks) : R2 whole (K + 1) o ((p, .sign 58) :: ts) = .error p := rfl
theorem extents_num (whole K : Nat) (es : List Int) (o : List (List Int × List Told)) (p : Nat) (n : Int) (ts : Toks) (h : 0 ≤ n) : R1 whole K es o ((p, .num n) :: ts) = R1 whole K (es ++ [n]) o ts := by
  unfold R1
  conv => lhs; unfold extents
  rw [if_neg (by omega)]
  cases extents ts with
  | error e => rfl
  | ok x => simp
theorem extents_neg (whole K : Nat) (es : List Int) (o : List (List Int × List Told)) (p : Nat) (n : Int) (ts : Toks) (h : n < 0) : R1 whole K es o ((p, .num n) :: ts) = .error p := by
  unfold R1 extents
  rw [if_pos h]
theorem extents_colon (whole K : Nat) (es : List Int) (o : List (List Int × List Told)) (p : Nat) (ts : Toks) : R1 whole K es o ((p, .sign 58) :: ts) = R2 whole K ((es, []) :: o) ts := by
  unfold R1 extents
  simp
theorem extents_sign (whole K : Nat) (es : List Int) (o : List (List Int × List Told)) (p c : Nat) (ts : Toks) (h : c ≠ 58) : R1 whole K es o ((p, .sign c) :: ts) = .error p := by
  unfold R1 extents
  rw [if_neg h]
theorem extents_end (whole K : Nat) (es : List Int) (o : List (List Int × List Told)) (p : Nat) (ts : Toks) : R1 whole K es o ((p, .none) :: ts) = .error p := rfl
theorem TS_ne (whole : Nat) : ∀ (n : Nat) (l : List Nat), l.length ≤ n → TS whole l ≠ []
  | _, [], _ => by rw [TS_nil]; simp
  | 0, _ :: _, h => by simp at h
  | n + 1, c :: r, h => by
    rw [TS_cons]
    rw [List.length_cons] at h
    split
    · exact TS_ne whole n r (by omega)
    · split
      · simp
      · split <;> simp
theorem heldZ_nonneg (n : Int) : 0 ≤ heldZ n ↔ 0 ≤ n := by
  unfold heldZ
  split
  · omega
  · split <;> omega
/-- one turn of the scan -/
theorem scanF_end (m : Nat) (t : List Nat) (st lv : Int) (acc : List Tk) : scanF (m + 1) t t.length st lv acc = if st = 3 then (acc, -1) else (acc, (t.length : Int)) := by
  conv => lhs; unfold scanF
  rw [if_neg (Nat.lt_irrefl _)]
theorem scanF_turn (m : Nat) (t : List Nat) (k : Nat) (st lv : Int) (acc : List Tk) (h : k < t.length) : scanF (m + 1) t k st lv acc =
    if (adv st lv (tokOf (t.drop k) k)).1 = 4 then (acc, (k : Int)) else scanF m t ((tokOf (t.drop k) k).stop.toNat + runLen isBlank (t.drop (tokOf (t.drop k) k).stop.toNat)) (adv st lv (tokOf (t.drop k) k)).1 (adv st lv (tokOf (t.drop k) k)).2 (acc ++ [tokOf (t.drop k) k]) := by
  conv => lhs; unfold scanF
  rw [if_pos h]
structure ScanOk (t : List Nat) (m : Nat) : Prop where
  start : ∀ (k K : Nat), k ≤ t.length → (∀ c r, t.drop k = c :: r → isBlank c = false) → t.length + 1 ≤ k + m → t.length + 1 ≤ k + K → Agree (scanF m t k 0 0 []) (R2 t.length K [] (TS t.length (t.drop k)))
  members : ∀ (k K : Nat) (s : List Int) (l : List Told) (o : List (List Int × List Told)) (acc : List Tk), k ≤ t.length → (∀ c r, t.drop k = c :: r → isBlank c = false) → t.length + 1 ≤ k + m → t.length + 1 ≤ k + K → acc.map kn = linO ((s, l) :: o) →
    Agree (scanF m t k 2 ((o.length : Int) + 1) acc) (R2 t.length K ((s, l) :: o) (TS t.length (t.drop k)))
  exts : ∀ (k K : Nat) (es : List Int) (o : List (List Int × List Told)) (acc : List Tk), k ≤ t.length → (∀ c r, t.drop k = c :: r → isBlank c = false) → t.length + 1 ≤ k + m → t.length + 1 ≤ k + K → acc.map kn = linO o ++ (91, 0) :: nums es →
    Agree (scanF m t k 1 ((o.length : Int) + 1) acc) (R1 t.length K es o (TS t.length (t.drop k)))
  done : ∀ (k : Nat) (x : Told) (lv : Int) (acc : List Tk), k ≤ t.length → (∀ c r, t.drop k = c :: r → isBlank c = false) → t.length + 1 ≤ k + m → acc.map kn = lin x → Agree (scanF m t k 3 lv acc) (finT t.length (x, TS t.length (t.drop k)))
theorem scan_ok (t : List Nat) : ∀ m : Nat, ScanOk t m
  | 0 => ⟨fun k K h1 _ h2 _ => by omega, fun k K s l o acc h1 _ h2 _ _ => by omega, fun k K es o acc h1 _ h2 _ _ => by omega, fun k x lv acc h1 _ h2 _ => by omega⟩
  | m + 1 => by
    have ih := scan_ok t m
    -- the place behind a token
    have nx : ∀ (j : Nat), j ≤ t.length → j + runLen isBlank (t.drop j) ≤ t.length ∧ (∀ c r, t.drop (j + runLen isBlank (t.drop j)) = c :: r → isBlank c = false) ∧ TS t.length (t.drop (j + runLen isBlank (t.drop j))) = TS t.length (t.drop j) := fun j hj => by
      have h1 := runLen_le isBlank (t.drop j)
      rw [List.length_drop] at h1
      refine ⟨by omega, fun c r e => ?_, ?_⟩
      · rw [← List.drop_drop] at e
        exact head_run _ c r e
      · rw [← List.drop_drop]
        exact (TS_blanks _ _).symm
    have cases_at : ∀ k : Nat, k ≤ t.length → (∀ c r, t.drop k = c :: r → isBlank c = false) → k = t.length ∨ (k < t.length ∧ TokIs t.length (t.drop k) k) := fun k hk hb => by
      by_cases h : k < t.length
      · refine .inr ⟨h, ?_⟩
        have hdr : t.drop k = t[k] :: t.drop (k + 1) := List.drop_eq_getElem_cons h
        have hl : (t.drop (k + 1)).length + 1 = t.length - k := by rw [List.length_drop]; omega
        have := tok_is t.length t[k] (t.drop (k + 1)) (hb _ _ hdr) (by omega)
        rw [hl, ← hdr, show t.length - (t.length - k) = k by omega] at this
        exact this
      · exact .inl (by omega)
    have atend : TS t.length (t.drop t.length) = [(t.length, .none)] := by rw [List.drop_length]; rfl
    have flt : ∀ (k : Nat) (st lv : Int) (acc : List Tk), k < t.length → (adv st lv (tokOf (t.drop k) k)).1 = 4 → scanF (m + 1) t k st lv acc = (acc, (k : Int)) := fun k st lv acc h e => by rw [scanF_turn _ _ _ _ _ _ h, if_pos e]
    have go : ∀ (k : Nat) (st lv st' lv' : Int) (acc : List Tk) (j : Nat), k < t.length → adv st lv (tokOf (t.drop k) k) = (st', lv') → st' ≠ 4 → (tokOf (t.drop k) k).stop = (j : Int) → scanF (m + 1) t k st lv acc = scanF m t (j + runLen isBlank (t.drop j)) st' lv' (acc ++ [tokOf (t.drop k) k]) := fun k st lv st' lv' acc j h e h4 hj => by
      rw [scanF_turn _ _ _ _ _ _ h, e, if_neg h4, hj]
      rfl
    refine ⟨fun k K hk hb hm hK => ?_, fun k K s l o acc hk hb hm hK ha => ?_, fun k K es o acc hk hb hm hK ha => ?_, fun k x lv acc hk hb hm ha => ?_⟩
    · -- START
      obtain ⟨K, rfl⟩ : ∃ K', K = K' + 1 := ⟨K - 1, by omega⟩
      rcases cases_at k hk hb with rfl | ⟨hlt, T⟩
      · rw [atend, scanF_end, values_end]
        rfl
      cases T with
      | none h e =>
        rw [e, values_end, flt k 0 0 [] hlt (by rw [h]; exact adv_zero _ _ _ rfl)]
        rfl
      | num n s h hs hl e =>
        rw [List.length_drop] at hl
        obtain ⟨n1, n2, n3⟩ := nx (k + s) (by omega)
        rw [e, values_num0, go k 0 0 3 0 [] (k + s) hlt (by rw [h]; rfl) (by decide) (by rw [h]), List.drop_drop, ← n3]
        refine ih.done _ (.num n) 0 _ n1 n2 (by omega) ?_
        rw [h]
        unfold lin
        rfl
      | sign c hc h e =>
        obtain ⟨n1, n2, n3⟩ := nx (k + 1) (by omega)
        rcases hc with rfl | rfl | rfl
        · rw [e, values_open, go k 0 0 1 1 [] (k + 1) hlt (by rw [h]; rfl) (by decide) (by rw [h]), List.drop_drop, ← n3]
          refine ih.exts _ K [] [] _ n1 n2 (by omega) (by omega) ?_
          rw [h]
          rfl
        · rw [e, values_colon, flt k 0 0 [] hlt (by rw [h]; rfl)]
          rfl
        · rw [e, values_close0, flt k 0 0 [] hlt (by rw [h]; rfl)]
          rfl
    · -- MEMBERS
      obtain ⟨K, rfl⟩ : ∃ K', K = K' + 1 := ⟨K - 1, by omega⟩
      rcases cases_at k hk hb with rfl | ⟨hlt, T⟩
      · rw [atend, scanF_end, values_end]
        rfl
      cases T with
      | none h e =>
        rw [e, values_end, flt k 2 _ acc hlt (by rw [h]; exact adv_zero _ _ _ rfl)]
        rfl
      | num n s' h hs hl e =>
        rw [List.length_drop] at hl
        obtain ⟨n1, n2, n3⟩ := nx (k + s') (by omega)
        rw [e, values_num _ _ _ _ _ _ _ _ (TS_ne _ _ _ (Nat.le_refl _)), go k 2 _ 2 ((o.length : Int) + 1) acc (k + s') hlt (by rw [h]; rfl) (by decide) (by rw [h]), List.drop_drop, ← n3]
        refine ih.members _ K s (.num n :: l) o _ n1 n2 (by omega) (by omega) ?_
        rw [List.map_append, ha, linO_push, h]
        unfold lin
        rfl
      | sign c hc h e =>
        obtain ⟨n1, n2, n3⟩ := nx (k + 1) (by omega)
        rcases hc with rfl | rfl | rfl
        · rw [e, values_open, go k 2 _ 1 ((o.length : Int) + 1 + 1) acc (k + 1) hlt (by rw [h]; rfl) (by decide) (by rw [h]), List.drop_drop, ← n3]
          refine ih.exts _ K [] ((s, l) :: o) _ n1 n2 (by omega) (by omega) ?_
          rw [List.map_append, ha, h]
          rfl
        · rw [e, values_colon, flt k 2 _ acc hlt (by rw [h]; rfl)]
          rfl
        · cases o with
          | nil =>
            rw [e, values_close1, go k 2 _ 3 0 acc (k + 1) hlt (by rw [h]; rfl) (by decide) (by rw [h]), List.drop_drop, ← n3]
            refine ih.done _ (.arr s l.reverse) 0 _ n1 n2 (by omega) ?_
            rw [List.map_append, ha, h]
            exact linO_close s l []
          | cons q o =>
            obtain ⟨u, mm⟩ := q
            have ea : adv 2 ((((u, mm) :: o).length : Int) + 1) ⟨((93 : Nat) : Int), 0, ((k + 1 : Nat) : Int)⟩ = (2, (o.length : Int) + 1) := by
              show (afterCl ((((o.length + 1 : Nat) : Int) + 1) - 1), ((((o.length + 1 : Nat) : Int) + 1) - 1)) = _
              have e1 : ((((o.length + 1 : Nat) : Int) + 1) - 1) = (o.length : Int) + 1 := by omega
              rw [e1]
              unfold afterCl
              rw [if_neg (by omega)]
            rw [e, values_close, go k 2 _ 2 ((o.length : Int) + 1) acc (k + 1) hlt (by rw [h]; exact ea) (by decide) (by rw [h]), List.drop_drop, ← n3]
            refine ih.members _ K u (.arr s l.reverse :: mm) o _ n1 n2 (by omega) (by omega) ?_
            rw [List.map_append, ha, h, linO_push]
            exact linO_close s l ((u, mm) :: o)
    · -- EXTENTS
      rcases cases_at k hk hb with rfl | ⟨hlt, T⟩
      · rw [atend, scanF_end, extents_end]
        rfl
      cases T with
      | none h e =>
        rw [e, extents_end, flt k 1 _ acc hlt (by rw [h]; exact adv_zero _ _ _ rfl)]
        rfl
      | num n s' h hs hl e =>
        rw [List.length_drop] at hl
        obtain ⟨n1, n2, n3⟩ := nx (k + s') (by omega)
        by_cases hn : 0 ≤ n
        · have ea : adv 1 ((o.length : Int) + 1) ⟨1, heldZ n, ((k + s' : Nat) : Int)⟩ = (1, (o.length : Int) + 1) := by
            show (afterNum 1 (heldZ n), _) = _
            unfold afterNum
            rw [if_neg (by decide), if_neg (by decide), if_pos ⟨rfl, (heldZ_nonneg n).mpr hn⟩]
          rw [e, extents_num _ _ _ _ _ _ _ hn, go k 1 _ 1 ((o.length : Int) + 1) acc (k + s') hlt (by rw [h]; exact ea) (by decide) (by rw [h]), List.drop_drop, ← n3]
          refine ih.exts _ K (es ++ [n]) o _ n1 n2 (by omega) (by omega) ?_
          rw [List.map_append, ha, h]
          unfold nums
          simp [kn]
        · have ea : (adv 1 ((o.length : Int) + 1) ⟨1, heldZ n, ((k + s' : Nat) : Int)⟩).1 = 4 := by
            show afterNum 1 (heldZ n) = _
            unfold afterNum
            rw [if_neg (by decide), if_neg (by decide), if_neg (fun z => hn ((heldZ_nonneg n).mp z.2))]
          rw [e, extents_neg _ _ _ _ _ _ _ (by omega), flt k 1 _ acc hlt (by rw [h]; exact ea)]
          rfl
      | sign c hc h e =>
        obtain ⟨n1, n2, n3⟩ := nx (k + 1) (by omega)
        rcases hc with rfl | rfl | rfl
        · rw [e, extents_sign _ _ _ _ _ _ _ (by decide), flt k 1 _ acc hlt (by rw [h]; rfl)]
          rfl
        · rw [e, extents_colon, go k 1 _ 2 ((o.length : Int) + 1) acc (k + 1) hlt (by rw [h]; rfl) (by decide) (by rw [h]), List.drop_drop, ← n3]
          refine ih.members _ K es [] o _ n1 n2 (by omega) (by omega) ?_
          rw [List.map_append, ha, h]
          rw [linO_cons]
          simp [linL, kn]
        · rw [e, extents_sign _ _ _ _ _ _ _ (by decide), flt k 1 _ acc hlt (by rw [h]; rfl)]
          rfl
    · -- DONE
      rcases cases_at k hk hb with rfl | ⟨hlt, T⟩
      · rw [atend, scanF_end, if_pos rfl]
        unfold finT
        simp only [if_true]
        exact ⟨rfl, ha⟩
      cases T with
      | none h e =>
        rw [e, flt k 3 _ acc hlt (by rw [h]; exact adv_zero _ _ _ rfl)]
        unfold finT
        simp only [if_neg (Nat.ne_of_lt hlt)]
        rfl
      | num n s' h hs hl e =>
        rw [e, flt k 3 _ acc hlt (by rw [h]; rfl)]
        rfl
      | sign c hc h e =>
        rcases hc with rfl | rfl | rfl <;> (rw [e, flt k 3 _ acc hlt (by rw [h]; rfl)]; rfl)
theorem scan_read (t : List Nat) : Agree (scanAll t) (readTold t) := by
  rw [readTold_is]
  unfold scanAll
  have h1 := runLen_le isBlank t
  rw [TS_blanks]
  exact (scan_ok t (t.length + 1)).start _ _ h1 (fun c r e => head_run t c r e) (by omega) (by omega)
end N
namespace N
open PySem L2
def spLookLong (K : PySem.W.Frag) (C : Addr) : Sp := fun vs H Q E => ∃ (a : Addr) (t : List Nat), vs = [.ref a] ∧ SqL K H a (Bs t) ∧ (8192 < t.length → Fails C E H (-1)) ∧ (t.length ≤ 8192 → Q .non H)
section
variable {P : Program} {w : World} {K : PySem.W.Frag} {mg : Str → Option Value} {base : Heap} {CRef fRef : Addr}
theorem sc_look_long : FnScope ["text"] ["text"] (defScope sLookLong) := ⟨rfl, rfl, rfl, by decide +kernel, rfl, by decide +kernel, by decide +kernel⟩
theorem ok_look_long (T : Top1 K mg "look_long" sLookLong ["text"]) (c_MOST_BYTES : CI mg "MOST_BYTES" 8192) (c_LONG : CI mg "LONG" (-1)) (b_len : mg "len" = none) (R : PySem.RefX.RefTxt K mg CRef fRef) : Def P w K mg base (L2.CX P w) "look_long" 2 ["text"] (spLookLong K CRef) := by
  refine T.okX sc_look_long (fun vs H Q E h => ?_) (fun f cdv A outer s H vs Q E hr h => ?_)
  · obtain ⟨a, t, rfl, _⟩ := h
    rfl
  obtain ⟨a, t, rfl, hS, kL, kS⟩ := h
  refine ⟨_, (pss_one (ps_if (pt_cmpR op_gt (pe_callB call_len_seq (by rfl) b_len (by decide +kernel) (pa_cons (pv 0) pa_nil)) (pe_ci c_MOST_BYTES) (nomark _)) (pss_one (ps_raiseRef rfl R hr (takes_of rfl rfl rfl rfl) (pa_cons (pe_ci c_LONG) pa_nil))) pss_nil)), ?_⟩
  refine ⟨_, rfl, a, _, rfl, .inl hS, _, _, rfl, rfl, _, rfl, ?_⟩
  rw [Bs_len]
  by_cases c : 8192 < t.length
  · exact itT (by omega) ⟨_, rfl, fun d hd => kL c d _ (same_new hd _) upd_same⟩
  · exact itF (by omega) (kS (by omega))
end
end N
namespace N
open PySem L2
/-! ### Arr, and what stands for a value -/
abbrev U := Vaarrm.V
def arrF (e m : Addr) : List (Str × L2.V) := [("extents", .ref e), ("members", .ref m)]
theorem arrF_put (e m : Addr) : putF "members" (.ref m) (putF "extents" (.ref e) []) = arrF e m := by
  show (if ("extents" : Str) = "members" then _ else (("extents" : Str), L2.V.ref e) :: putF "members" (L2.V.ref m) []) = _
  rw [if_neg (by decide +kernel)]
  rfl
theorem arrF_ext (e m : Addr) : (arrF e m).lookup ("extents" : Str) = some (.ref e) := by
  unfold arrF
  rw [List.lookup_cons, show (("extents" : Str) == "extents") = true by decide +kernel]
theorem arrF_mem (e m : Addr) : (arrF e m).lookup ("members" : Str) = some (.ref m) := by
  unfold arrF
  rw [List.lookup_cons, show (("members" : Str) == "extents") = false by decide +kernel, List.lookup_cons, show (("members" : Str) == "members") = true by decide +kernel]
/-- the class facts that isinstance asks -/
structure ArrIs (K : PySem.W.Frag) (C : Addr) : Prop where
  cc : PySem.W.findIn K (.ref C) "__class__" = some (some (.builtin "object.__class__"))
  cg : PySem.W.specialIn K (.builtin "object.__class__") "__get__" = some (some (.builtin "getset_descriptor.__get__"))
  ct : PySem.W.takesIn K (.builtin "object.__class__") = some true
  co : PySem.W.mroIn K C (.type "object") = some true
  ci : PySem.W.subIn K (.ref C) (.type "int") = some false
abbrev ArrIsAt {K : PySem.W.Frag} {h : Heap} (_ : K.In h) := ArrIs K
theorem ArrIs.no {K : PySem.W.Frag} {C : Addr} (h : ArrIs K C) : PySem.W.kitOne K (.ref C) (.type "int") = some false := by
  unfold PySem.W.kitOne
  rw [if_neg (show ¬ ((Value.ref C == Value.type "int") = true) from by simp)]
  show (if PySem.W.kitMeta "int" = true then PySem.W.subIn K (.ref C) (.type "int") else none) = some false
  rw [if_pos (by decide +kernel)]
  exact h.ci
mutual
/-- x stands for the value v in the heap H -/
inductive Rep (C : Addr) (H : Hp) : L2.V → U → Prop
  | num (n : Int) (h : -1000000000000000000 ≤ n ∧ n ≤ 1000000000000000000) : Rep C H (.int n) (.num n)
  | arr {x dx e m : Addr} {s : List Nat} {us : List L2.V} {l : List U} (hx : H x = some (.ins C dx (arrF e m))) (he : H e = some (.lst (Bs s))) (hm : H m = some (.lst us)) (hb : ∀ n ∈ s, n ≤ 1000000000000000000) (hl : Reps C H us l) : Rep C H (.ref x) (.arr s l)
inductive Reps (C : Addr) (H : Hp) : List L2.V → List U → Prop
  | nil : Reps C H [] []
  | cons {u : L2.V} {us : List L2.V} {v : U} {l : List U} (h : Rep C H u v) (t : Reps C H us l) : Reps C H (u :: us) (v :: l)
end
mutual
theorem Rep.mono {C : Addr} {H H' : Hp} (e : Same H H') {u : L2.V} : {v : U} → Rep C H u v → Rep C H' u v
  | _, .num n h => .num n h
  | _, .arr hx he hm hb hl => .arr (e _ _ hx) (e _ _ he) (e _ _ hm) hb (hl.mono e)
theorem Reps.mono {C : Addr} {H H' : Hp} (e : Same H H') {us : List L2.V} : {l : List U} → Reps C H us l → Reps C H' us l
  | _, .nil => .nil
  | _, .cons h t => .cons (h.mono e) (t.mono e)
end
theorem Reps.length {C : Addr} {H : Hp} : ∀ {us : List L2.V} {l : List U}, Reps C H us l → us.length = l.length
  | _, _, .nil => rfl
  | _, _, .cons _ t => by rw [List.length_cons, List.length_cons, t.length]
theorem Reps.get {C : Addr} {H : Hp} : ∀ {us : List L2.V} {l : List U} {i : Nat} {u : L2.V}, Reps C H us l → us[i]? = some u → ∃ v, l[i]? = some v ∧ Rep C H u v
  | _, _, _, _, .nil, e => by simp at e
  | _, _, 0, _, .cons h _, e => ⟨_, rfl, by rw [← Option.some.inj e]; exact h⟩
  | _, _, i + 1, _, .cons _ t, e => by
    obtain ⟨v, a, b⟩ := Reps.get (i := i) t e
    exact ⟨v, a, b⟩
theorem Reps.got {C : Addr} {H : Hp} : ∀ {us : List L2.V} {l : List U} {i : Nat} {v : U}, Reps C H us l → l[i]? = some v → ∃ u, us[i]? = some u ∧ Rep C H u v
  | _, _, _, _, .nil, e => by simp at e
  | _, _, 0, _, .cons h _, e => ⟨_, rfl, by rw [← Option.some.inj e]; exact h⟩
  | _, _, i + 1, _, .cons _ t, e => by
    obtain ⟨v, a, b⟩ := Reps.got (i := i) t e
    exact ⟨v, a, b⟩
theorem Reps.append {C : Addr} {H : Hp} : ∀ {us ws : List L2.V} {l m : List U}, Reps C H us l → Reps C H ws m → Reps C H (us ++ ws) (l ++ m)
  | _, _, _, _, .nil, h => h
  | _, _, _, _, .cons a b, h => .cons a (b.append h)
theorem Reps.one {C : Addr} {H : Hp} {u : L2.V} {v : U} (h : Rep C H u v) : Reps C H [u] [v] := .cons h .nil
theorem Reps.drop {C : Addr} {H : Hp} : ∀ {us : List L2.V} {l : List U} (n : Nat), Reps C H us l → Reps C H (us.drop n) (l.drop n)
  | _, _, 0, h => h
  | _, _, _ + 1, .nil => .nil
  | _, _, n + 1, .cons _ t => Reps.drop n t
theorem Reps.take {C : Addr} {H : Hp} : ∀ {us : List L2.V} {l : List U} (n : Nat), Reps C H us l → Reps C H (us.take n) (l.take n)
  | _, _, 0, _ => .nil
  | _, _, _ + 1, .nil => .nil
  | _, _, n + 1, .cons a t => .cons a (Reps.take n t)
theorem Reps.reverse {C : Addr} {H : Hp} {us : List L2.V} {l : List U} (h : Reps C H us l) : Reps C H us.reverse l.reverse := by
  induction us generalizing l with
  | nil => cases h; exact .nil
  | cons u us ih =>
    cases h with
    | cons a t =>
      rw [List.reverse_cons, List.reverse_cons]
      exact (ih t).append (.one a)
/-- the two kinds of value apart -/
theorem Rep.of_num {C : Addr} {H : Hp} {u : L2.V} {n : Int} (h : Rep C H u (.num n)) : u = .int n ∧ -1000000000000000000 ≤ n ∧ n ≤ 1000000000000000000 := by
  cases h with
  | num n h => exact ⟨rfl, h⟩
theorem Rep.of_arr {C : Addr} {H : Hp} {u : L2.V} {s : List Nat} {l : List U} (h : Rep C H u (.arr s l)) : ∃ (x dx e m : Addr) (us : List L2.V), u = .ref x ∧ H x = some (.ins C dx (arrF e m)) ∧ H e = some (.lst (Bs s)) ∧ H m = some (.lst us) ∧ (∀ n ∈ s, n ≤ 1000000000000000000) ∧ Reps C H us l := by
  cases h with
  | arr hx he hm hb hl => exact ⟨_, _, _, _, _, rfl, hx, he, hm, hb, hl⟩
/-- the type of what stands for a value -/
theorem Rep.isInt {K : PySem.W.Frag} {C : Addr} {H : Hp} {u : L2.V} {v : U} (F : Cls K C) (A : ArrIs K C) (h : Rep C H u v) : ∃ t : Value, TyX K H u t ∧ PySem.W.kitOne K t (.type "int") = some (Vaarrm.isNum v) := by
  cases h with
  | num n h => exact ⟨_, .base (.int n), kit_ty (show kitB "int" "int" = some true by decide +kernel)⟩
  | arr hx he hm hb hl => exact ⟨_, .base (.ins hx F A.cc A.cg A.ct A.co), A.no⟩
def spArrInit (C : Addr) : Sp := fun vs H Q _ => ∃ (p dx e m : Addr), vs = [.ref p, .ref e, .ref m] ∧ H p = some (.ins C dx []) ∧ Q .non (upd H p (.ins C dx (arrF e m)))
section
variable {P : Program} {w : World} {K : PySem.W.Frag} {mg : Str → Option Value} {base : Heap} {CArr : Addr}
theorem sc_ArrInit : FnScope ["self", "extents", "members"] ["self", "extents", "members"] (defScope sArrInit) := ⟨rfl, rfl, rfl, by decide +kernel, rfl, by decide +kernel, by decide +kernel⟩
theorem ok_ArrInit (T : TopC K mg "Arr" "Arr.__init__" sArrInit ["self", "extents", "members"] CArr) (F : ClF K CArr ["extents", "members"]) : DefC P w K mg base "Arr" CArr 1 ["self", "extents", "members"] (spArrInit CArr) := by
  refine T.ok sc_ArrInit (fun vs H Q E h => ?_) (fun f cdv A outer s H vs Q E hr h => ?_)
  · obtain ⟨p, dx, e, m, rfl, _⟩ := h
    rfl
  obtain ⟨p, dx, e, m, rfl, hp, q⟩ := h
  refine ⟨_, pss_cons (ps_fld (pv 0) (pv 1) rfl) (pss_one (ps_fld (pv 0) (pv 2) rfl)), ?_⟩
  refine ⟨_, rfl, _, rfl, p, CArr, dx, _, rfl, hp, F.cl, F.no _ (by simp), (by show 0 < 1000; decide), _, rfl, _, rfl, p, CArr, dx, _, rfl, upd_same, F.cl, F.no _ (by simp), (by show 1 < 1000; decide), ?_⟩
  rw [arrF_put, upd_upd]
  exact q
/-- Arr(e, m): the end of its reading -/
theorem new_arr {H1 : Hp} {Q : VK} {E : XK} {e m : Addr} (q : ∀ (x dx : Addr) (H2 : Hp), H1 x = none → Same H1 H2 → H2 x = some (.ins CArr dx (arrF e m)) → Q (.ref x) H2) :
    ∀ x dx, H1 x = none → H1 dx = none → dx ≠ x → spArrInit CArr (.ref x :: ([.ref e, .ref m] ++ [])) (upd (upd H1 dx (.own x)) x (.ins CArr dx [])) (fun v H2 => v = .non ∧ Q (.ref x) H2) E := by
  intro x dx nx nd ne
  refine ⟨x, dx, e, m, rfl, upd_same, rfl, ?_⟩
  rw [upd_upd]
  have e1 : Same H1 (upd H1 dx (.own x)) := same_new nd _
  have e2 : Same H1 (upd (upd H1 dx (.own x)) x (.ins CArr dx (arrF e m))) := Same.mut e1 nx
  exact q x dx _ nx e2 upd_same
end
end N
namespace N
open PySem L2
/-! ### Frames: Hf is the part of the heap on which values lean; lists that still change stand outside of it -/
/-- from H to H', the part Hf grows to Hf' by new places alone -/
structure Grow (H H' Hf Hf' : Hp) : Prop where
  same : Same H H'
  ff : Same Hf Hf'
  fh : Same Hf' H'
  new : ∀ b o, H b = some o → Hf' b = Hf b
theorem Grow.refl {H Hf : Hp} (h : Same Hf H) : Grow H H Hf Hf := ⟨Same.refl _, Same.refl _, h, fun _ _ _ => rfl⟩
theorem Grow.of {H H' Hf : Hp} (h : Same Hf H) (e : Same H H') : Grow H H' Hf Hf := ⟨e, Same.refl _, h.trans e, fun _ _ _ => rfl⟩
theorem Grow.trans {H H1 H2 Hf Hf1 Hf2 : Hp} (a : Grow H H1 Hf Hf1) (b : Grow H1 H2 Hf1 Hf2) : Grow H H2 Hf Hf2 :=
  ⟨a.same.trans b.same, a.ff.trans b.ff, b.fh, fun c o h => (b.new c o (a.same c o h)).trans (a.new c o h)⟩
theorem Grow.on {H H1 H2 Hf Hf1 : Hp} (a : Grow H H1 Hf Hf1) (b : Same H1 H2) : Grow H H2 Hf Hf1 := a.trans (Grow.of a.fh b)
/-- a list outside of the part changes -/
theorem Grow.mut {H H' Hf Hf' : Hp} {D : Addr} {o : HO} (a : Grow H H' Hf Hf') (h : H D = none) (hf : Hf' D = none) : Grow H (upd H' D o) Hf Hf' :=
  ⟨Same.mut a.same h, a.ff, Same.mut a.fh hf, a.new⟩
/-- what was outside stays outside -/
theorem Grow.out {H H' Hf Hf' : Hp} {D : Addr} {o : HO} (a : Grow H H' Hf Hf') (h : H D = some o) (hf : Hf D = none) : Hf' D = none := by rw [a.new D o h]; exact hf
/-- a new object is taken into the part -/
theorem Grow.freeze {H H' Hf Hf' : Hp} {m : Addr} {o : HO} (hs : Same Hf H) (a : Grow H H' Hf Hf') (h : H m = none) (h' : H' m = some o) : Grow H H' Hf (upd Hf' m o) := by
  refine ⟨a.same, fun b u q => ?_, fun b u q => ?_, fun b u q => ?_⟩
  · rw [upd_ne (ne_of_none (hs b u q) h)]
    exact a.ff b u q
  · by_cases e : b = m
    · subst e
      rw [upd_same] at q
      rw [h', q]
    · rw [upd_ne e] at q
      exact a.fh b u q
  · rw [upd_ne (ne_of_none q h)]
    exact a.new b u q
theorem same_freeze {H Hf : Hp} {m : Addr} {o : HO} (h : Same Hf H) (h' : H m = some o) : Same (upd Hf m o) H := fun b u q => by
  by_cases e : b = m
  · subst e
    rw [upd_same] at q
    rw [h', q]
  · rw [upd_ne e] at q
    exact h b u q
/-- the answer of a def that makes a value -/
def GotV (C : Addr) (Q : VK) (H Hf : Hp) (v : U) : Prop := ∀ (r : V) (H' Hf' : Hp), Grow H H' Hf Hf' → Rep C Hf' r v → Q r H'
theorem GotV.back {C : Addr} {Q : VK} {H H1 Hf Hf1 : Hp} {v : U} (a : Grow H H1 Hf Hf1) (g : GotV C Q H Hf v) : GotV C Q H1 Hf1 v := fun r H' Hf' b h => g r H' Hf' (a.trans b) h
/-- the answer: a new list -/
def GotL (Q : VK) (H : Hp) (xs : List V) : Prop := ∀ (p : Addr) (H' : Hp), H p = none → Same H H' → H' p = some (.lst xs) → Q (.ref p) H'
theorem GotL.back {Q : VK} {H H1 : Hp} {xs : List V} (e : Same H H1) (g : GotL Q H xs) : GotL Q H1 xs := fun p H' hp e' h => g p H' (e.free hp) (e.trans e') h
/-- the answer: a new list of what stands for l -/
def GotM (C : Addr) (Q : VK) (H Hf : Hp) (l : List U) : Prop := ∀ (p : Addr) (us : List V) (H' : Hp), H p = none → Same H H' → H' p = some (.lst us) → Reps C Hf us l → Q (.ref p) H'
theorem GotM.back {C : Addr} {Q : VK} {H H1 Hf : Hp} {l : List U} (e : Same H H1) (g : GotM C Q H Hf l) : GotM C Q H1 Hf l := fun p us H' hp e' h r => g p us H' (e.free hp) (e.trans e') h r
/-- the answer: a value or a refusal -/
def OutV (C CR : Addr) (Q : VK) (E : XK) (H : Hp) : Except Int U → Prop
  | .ok w => ∀ (r : V) (H' : Hp), Same H H' → Rep C H' r w → Q r H'
  | .error n => Fails CR E H n
theorem OutV.back {C CR : Addr} {Q : VK} {E : XK} {H H1 : Hp} {r : Except Int U} (e : Same H H1) (g : OutV C CR Q E H r) : OutV C CR Q E H1 r := by
  cases r with
  | ok w => exact fun r H' a h => g r H' (e.trans a) h
  | error n => exact Fails.back e g
/-- a list of the heap that stands for l -/
def RowR (C : Addr) (H : Hp) (x : V) (l : List U) : Prop := ∃ (p : Addr) (us : List V), x = .ref p ∧ H p = some (.lst us) ∧ Reps C H us l
theorem RowR.mono {C : Addr} {H H' : Hp} {x : V} {l : List U} (e : Same H H') (h : RowR C H x l) : RowR C H' x l := by
  obtain ⟨p, us, a, b, c⟩ := h
  exact ⟨p, us, a, e _ _ b, c.mono e⟩
def Rows (C : Addr) (H : Hp) (xs : List V) (ls : List (List U)) : Prop := Paired (RowR C H) xs ls
theorem Rows.mono {C : Addr} {H H' : Hp} {xs : List V} {ls : List (List U)} (e : Same H H') (h : Rows C H xs ls) : Rows C H' xs ls := by
  unfold Rows at *
  induction h with
  | nil => exact .nil
  | cons a b ih => exact .cons (a.mono e) ih
theorem Rows.snoc {C : Addr} {H : Hp} {xs : List V} {ls : List (List U)} {x : V} {l : List U} (h : Rows C H xs ls) (a : RowR C H x l) : Rows C H (xs ++ [x]) (ls ++ [l]) := Paired.snoc h a
/-- a list of the heap that holds whole numbers -/
def RowI (H : Hp) (x : V) (d : List Int) : Prop := ∃ p : Addr, x = .ref p ∧ H p = some (.lst (d.map V.int))
theorem RowI.mono {H H' : Hp} {x : V} {d : List Int} (e : Same H H') (h : RowI H x d) : RowI H' x d := by
  obtain ⟨p, a, b⟩ := h
  exact ⟨p, a, e _ _ b⟩
def RowsI (H : Hp) (xs : List V) (ds : List (List Int)) : Prop := Paired (RowI H) xs ds
theorem RowsI.mono {H H' : Hp} {xs : List V} {ds : List (List Int)} (e : Same H H') (h : RowsI H xs ds) : RowsI H' xs ds := by
  unfold RowsI at *
  induction h with
  | nil => exact .nil
  | cons a b ih => exact .cons (a.mono e) ih
end N
namespace N
open PySem L2
def spIsNum (C : Addr) : Sp := fun vs H Q _ => ∃ (u : V) (v : U), vs = [u] ∧ Rep C H u v ∧ Q (.bl (Vaarrm.isNum v)) H
section
variable {P : Program} {w : World} {K : PySem.W.Frag} {mg : Str → Option Value} {base : Heap} {CArr : Addr}
theorem sc_is_number : FnScope ["u"] ["u"] (defScope sIsNumber) := ⟨rfl, rfl, rfl, by decide +kernel, rfl, by decide +kernel, by decide +kernel⟩
theorem ok_is_number (T : Top1 K mg "is_number" sIsNumber ["u"]) (b_int : mg "int" = none) (b_isinstance : mg "isinstance" = none) (F_Arr : ClF K CArr ["extents", "members"]) (A_Arr : ArrIs K CArr) : Def P w K mg base CX0 "is_number" 1 ["u"] (spIsNum CArr) := by
  refine T.ok sc_is_number (fun vs H Q E h => ?_) (fun f cdv A outer s H vs Q E hr h => ?_)
  · obtain ⟨u, v, rfl, _⟩ := h
    rfl
  obtain ⟨u, v, rfl, hu, q⟩ := h
  obtain ⟨t, h1, h2⟩ := hu.isInt F_Arr.cl A_Arr
  exact ⟨_, (pss_one (ps_ret (pe_callB call_isi (by rfl) b_isinstance (by decide +kernel) (pa_cons (pv 0) (pa_cons (pe_bltn (v := .ty "int") (by rfl) b_int (by decide +kernel) rfl) pa_nil))))), _, rfl, _, _, _, _, _, rfl, .ty "int", h1, h2, q⟩
end
end N
namespace N
theorem prod_snoc (s : List Nat) (n : Nat) : Vaarrm.product (s ++ [n]) = Vaarrm.product s * n := by
  unfold Vaarrm.product
  rw [List.foldl_append]
  rfl
end N
namespace N
open PySem L2
/-- within_bounds(n) -/
def inG (n : Int) : Bool := decide (-1000000000000000000 ≤ n ∧ n ≤ 1000000000000000000)
def spWithin : Sp := fun vs H Q _ => ∃ n : Int, vs = [.int n] ∧ Q (.bl (inG n)) H
section
variable {P : Program} {w : World} {K : PySem.W.Frag} {mg : Str → Option Value} {base : Heap}
theorem sc_within_bounds : FnScope ["n"] ["n"] (defScope sWithinBounds) := ⟨rfl, rfl, rfl, by decide +kernel, rfl, by decide +kernel, by decide +kernel⟩
theorem ok_within_bounds (T : Top1 K mg "within_bounds" sWithinBounds ["n"]) (c_GREATEST : CI mg "GREATEST" 1000000000000000000) : Def P w K mg base CX0 "within_bounds" 1 ["n"] (spWithin) := by
  refine T.ok sc_within_bounds (fun vs H Q E h => ?_) (fun f cdv A outer s H vs Q E hr h => ?_)
  · obtain ⟨n, rfl, _⟩ := h
    rfl
  obtain ⟨n, rfl, q⟩ := h
  refine ⟨_, (pss_one (ps_ret (pe_chain op_le op_le (pe_un un_neg (pe_ci c_GREATEST)) (pv 0) (pe_ci c_GREATEST)))), ?_⟩
  unfold inG at q
  refine ⟨_, rfl, _, rfl, _, _, rfl, rfl, _, rfl, ?_⟩
  by_cases h1 : (-1000000000000000000 : Int) ≤ n
  · refine itT h1 ⟨_, _, rfl, rfl, ?_⟩
    by_cases h2 : n ≤ 1000000000000000000
    · rw [decide_eq_true ⟨h1, h2⟩] at q
      have q' : Q (.bl (decide (n ≤ 1000000000000000000))) H := by rw [decide_eq_true h2]; exact q
      exact q'
    · rw [decide_eq_false (fun z => h2 z.2)] at q
      have q' : Q (.bl (decide (n ≤ 1000000000000000000))) H := by rw [decide_eq_false h2]; exact q
      exact q'
  · rw [decide_eq_false (fun z => h1 z.1)] at q
    exact itF h1 q
end
end N
namespace N
/-! ### Plain Lean: depth, size, leaves of a value, whole -/
mutual
def tdepth : U → Nat
  | .num _ => 0
  | .arr _ l => 1 + tdepthL l
def tdepthL : List U → Nat
  | [] => 0
  | v :: l => max (tdepth v) (tdepthL l)
end
mutual
def tsize : U → Nat
  | .num _ => 1
  | .arr _ l => 1 + tsizeL l
def tsizeL : List U → Nat
  | [] => 0
  | v :: l => tsize v + tsizeL l
end
mutual
def tleaves : U → List Int
  | .num n => [n]
  | .arr _ l => tleavesL l
def tleavesL : List U → List Int
  | [] => []
  | v :: l => tleaves v ++ tleavesL l
end
mutual
def tshapes : U → Bool
  | .num _ => true
  | .arr s l => Vaarrm.shapeOk s && tshapesL l
def tshapesL : List U → Bool
  | [] => true
  | v :: l => tshapes v && tshapesL l
end
mutual
/-- the walk: every number and array with its level, u first -/
def pre (lv : Nat) : U → List (Nat × U)
  | .num n => [(lv, .num n)]
  | .arr s l => (lv, .arr s l) :: preL (lv + 1) l
def preL (lv : Nat) : List U → List (Nat × U)
  | [] => []
  | v :: l => pre lv v ++ preL lv l
end
theorem tsizeL_append : ∀ l m : List U, tsizeL (l ++ m) = tsizeL l + tsizeL m
  | [], m => by show tsizeL m = 0 + tsizeL m; omega
  | v :: l, m => by
    show tsize v + tsizeL (l ++ m) = tsize v + tsizeL l + tsizeL m
    rw [tsizeL_append l m]
    omega
theorem tsize_pos (v : U) : 0 < tsize v := by
  cases v with
  | num n => exact Nat.one_pos
  | arr s l =>
    show 0 < 1 + tsizeL l
    omega
theorem len_tsizeL : ∀ l : List U, l.length ≤ tsizeL l
  | [] => Nat.le_refl _
  | v :: l => by
    have h1 := len_tsizeL l
    have h2 := tsize_pos v
    show l.length + 1 ≤ tsize v + tsizeL l
    omega
mutual
theorem pre_len (lv : Nat) : ∀ v : U, (pre lv v).length = tsize v
  | .num n => rfl
  | .arr s l => by
    show (preL (lv + 1) l).length + 1 = 1 + tsizeL l
    rw [preL_len (lv + 1) l]
    omega
theorem preL_len (lv : Nat) : ∀ l : List U, (preL lv l).length = tsizeL l
  | [] => rfl
  | v :: l => by
    show (pre lv v ++ preL lv l).length = tsize v + tsizeL l
    rw [List.length_append, pre_len lv v, preL_len lv l]
end
/-- the greatest depth met -/
def deepStep (d : Nat) (p : Nat × U) : Nat := if Vaarrm.isNum p.2 = true then d else max d (p.1 + 1)
def deepOf (ms : List (Nat × U)) : Nat := ms.foldl deepStep 0
mutual
theorem deep_pre : ∀ (v : U) (lv d : Nat), (pre lv v).foldl deepStep d = if Vaarrm.isNum v = true then d else max d (lv + tdepth v)
  | .num n, lv, d => rfl
  | .arr s l, lv, d => by
    show (preL (lv + 1) l).foldl deepStep (deepStep d (lv, .arr s l)) = max d (lv + (1 + tdepthL l))
    rw [deep_preL l (lv + 1)]
    · show max (max d (lv + 1)) (lv + 1 + tdepthL l) = _
      omega
    · show lv + 1 ≤ max d (lv + 1)
      omega
theorem deep_preL : ∀ (l : List U) (lv d : Nat), lv ≤ d → (preL lv l).foldl deepStep d = max d (lv + tdepthL l)
  | [], lv, d, h => by
    show d = max d (lv + 0)
    omega
  | v :: l, lv, d, h => by
    show (pre lv v ++ preL lv l).foldl deepStep d = max d (lv + max (tdepth v) (tdepthL l))
    rw [List.foldl_append, deep_pre v lv d]
    cases v with
    | num n =>
      show (preL lv l).foldl deepStep d = _
      rw [deep_preL l lv d h]
      show max d (lv + tdepthL l) = max d (lv + max 0 (tdepthL l))
      omega
    | arr s l' =>
      show (preL lv l).foldl deepStep (max d (lv + tdepth (.arr s l'))) = _
      rw [deep_preL l lv _ (by omega)]
      omega
end
theorem deepOf_pre (v : U) : deepOf (pre 0 v) = tdepth v := by
  unfold deepOf
  rw [deep_pre]
  cases v with
  | num n => rfl
  | arr s l =>
    show max 0 (0 + tdepth (.arr s l)) = _
    omega
mutual
theorem leaves_pre (lv : Nat) : ∀ v : U, (pre lv v).flatMap (fun p => match p.2 with | .num n => [n] | .arr _ _ => []) = tleaves v
  | .num n => rfl
  | .arr s l => by
    show [] ++ (preL (lv + 1) l).flatMap _ = tleavesL l
    rw [List.nil_append, leaves_preL (lv + 1) l]
theorem leaves_preL (lv : Nat) : ∀ l : List U, (preL lv l).flatMap (fun p => match p.2 with | .num n => [n] | .arr _ _ => []) = tleavesL l
  | [] => rfl
  | v :: l => by
    show (pre lv v ++ preL lv l).flatMap _ = tleaves v ++ tleavesL l
    rw [List.flatMap_append, leaves_pre lv v, leaves_preL lv l]
end
/-- whether an array met has a shape that is one -/
def goodMet (p : Nat × U) : Bool := match p.2 with
  | .num _ => true
  | .arr s _ => Vaarrm.shapeOk s
mutual
theorem shapes_pre (lv : Nat) : ∀ v : U, (pre lv v).all goodMet = tshapes v
  | .num n => rfl
  | .arr s l => by
    show (Vaarrm.shapeOk s && (preL (lv + 1) l).all goodMet) = (Vaarrm.shapeOk s && tshapesL l)
    rw [shapes_preL (lv + 1) l]
theorem shapes_preL (lv : Nat) : ∀ l : List U, (preL lv l).all goodMet = tshapesL l
  | [] => rfl
  | v :: l => by
    show (pre lv v ++ preL lv l).all goodMet = (tshapes v && tshapesL l)
    rw [List.all_append, shapes_pre lv v, shapes_preL lv l]
end
/-! the specification's, as far down as is told -/
theorem foldl_max (l : List Nat) : ∀ d : Nat, l.foldl max d = max d (l.foldl max 0) := by
  induction l with
  | nil => intro d; show d = max d 0; omega
  | cons x l ih =>
    intro d
    rw [List.foldl_cons, List.foldl_cons, ih, ih (max 0 x)]
    omega
theorem foldl_add (l : List Nat) : ∀ d : Nat, l.foldl (fun n x => n + x) d = d + l.foldl (fun n x => n + x) 0 := by
  induction l with
  | nil => intro d; rfl
  | cons x l ih =>
    intro d
    rw [List.foldl_cons, List.foldl_cons, ih, ih (0 + x)]
    omega
mutual
theorem depth_is : ∀ (v : U) (k : Nat), Vaarrm.depth k v = min k (tdepth v)
  | v, 0 => by show 0 = min 0 _; omega
  | .num n, k + 1 => by show 0 = min (k + 1) 0; omega
  | .arr s l, k + 1 => by
    show 1 + (l.map (Vaarrm.depth k)).foldl max 0 = min (k + 1) (1 + tdepthL l)
    rw [depth_isL l k]
    omega
theorem depth_isL : ∀ (l : List U) (k : Nat), (l.map (Vaarrm.depth k)).foldl max 0 = min k (tdepthL l)
  | [], k => by show 0 = min k 0; omega
  | v :: l, k => by
    rw [List.map_cons, List.foldl_cons, foldl_max, depth_isL l k, depth_is v k]
    show max (max 0 (min k (tdepth v))) (min k (tdepthL l)) = min k (max (tdepth v) (tdepthL l))
    omega
end
mutual
theorem size_is : ∀ (v : U) (k : Nat), tdepth v ≤ k → Vaarrm.size k v = tsize v
  | .num n, 0, _ => rfl
  | .num n, k + 1, _ => rfl
  | .arr s l, 0, h => absurd (show 1 + tdepthL l ≤ 0 from h) (by omega)
  | .arr s l, k + 1, h => by
    have h' : 1 + tdepthL l ≤ k + 1 := h
    show (l.map (Vaarrm.size k)).foldl (fun n x => n + x) 1 = 1 + tsizeL l
    rw [foldl_add, size_isL l k (by omega)]
theorem size_isL : ∀ (l : List U) (k : Nat), tdepthL l ≤ k → (l.map (Vaarrm.size k)).foldl (fun n x => n + x) 0 = tsizeL l
  | [], k, _ => rfl
  | v :: l, k, h => by
    have h' : max (tdepth v) (tdepthL l) ≤ k := h
    rw [List.map_cons, List.foldl_cons, foldl_add, size_isL l k (by omega), size_is v k (by omega)]
    show 0 + tsize v + tsizeL l = tsize v + tsizeL l
    omega
end
mutual
theorem leaves_is : ∀ (v : U) (k : Nat), tdepth v < k → Vaarrm.leaves k v = tleaves v
  | v, 0, h => absurd h (by omega)
  | .num n, k + 1, _ => rfl
  | .arr s l, k + 1, h => by
    have h' : 1 + tdepthL l < k + 1 := h
    show l.flatMap (Vaarrm.leaves k) = tleavesL l
    exact leaves_isL l k (by omega)
theorem leaves_isL : ∀ (l : List U) (k : Nat), tdepthL l < k → l.flatMap (Vaarrm.leaves k) = tleavesL l
  | [], k, _ => rfl
  | v :: l, k, h => by
    have h' : max (tdepth v) (tdepthL l) < k := h
    rw [List.flatMap_cons, leaves_isL l k (by omega), leaves_is v k (by omega)]
    rfl
end
mutual
theorem shapes_is : ∀ (v : U) (k : Nat), tdepth v ≤ k → Vaarrm.goodShapes k v = tshapes v
  | .num n, 0, _ => rfl
  | .num n, k + 1, _ => rfl
  | .arr s l, 0, h => absurd (show 1 + tdepthL l ≤ 0 from h) (by omega)
  | .arr s l, k + 1, h => by
    have h' : 1 + tdepthL l ≤ k + 1 := h
    show (Vaarrm.shapeOk s && l.all (Vaarrm.goodShapes k)) = (Vaarrm.shapeOk s && tshapesL l)
    rw [shapes_isL l k (by omega)]
theorem shapes_isL : ∀ (l : List U) (k : Nat), tdepthL l ≤ k → l.all (Vaarrm.goodShapes k) = tshapesL l
  | [], k, _ => rfl
  | v :: l, k, h => by
    have h' : max (tdepth v) (tdepthL l) ≤ k := h
    rw [List.all_cons, shapes_isL l k (by omega), shapes_is v k (by omega)]
    rfl
end
/-- within the limits -/
def tlim (v : U) : Bool := decide (tsize v ≤ 512 ∧ tdepth v ≤ 8)
theorem within_is (v : U) (k : Nat) (h : tdepth v ≤ k ∨ 9 ≤ k) : Vaarrm.within k v = tlim v := by
  unfold Vaarrm.within tlim Vaarrm.DEEP
  rw [depth_is]
  by_cases hk : tdepth v ≤ k
  · rw [size_is v k hk, Nat.min_eq_right hk]
    by_cases a : tdepth v ≤ 8
    · rw [decide_eq_true a, Bool.true_and]
      exact decide_eq_decide.mpr ⟨fun z => ⟨z, a⟩, fun z => z.1⟩
    · rw [decide_eq_false a, Bool.false_and]
      exact (decide_eq_false fun z => a z.2).symm
  · have h9 : 9 ≤ k := h.resolve_left hk
    rw [decide_eq_false (show ¬ min k (tdepth v) ≤ 8 by omega), Bool.false_and]
    exact (decide_eq_false fun z => by omega).symm
theorem tshapesL_get : ∀ {l : List U} {i : Nat} {v : U}, tshapesL l = true → l[i]? = some v → tshapes v = true
  | [], _, _, _, e => by simp at e
  | a :: l, 0, v, h, e => by
    have h' : (tshapes a && tshapesL l) = true := h
    rw [Bool.and_eq_true] at h'
    rw [← Option.some.inj e]
    exact h'.1
  | a :: l, i + 1, v, h, e => by
    have h' : (tshapes a && tshapesL l) = true := h
    rw [Bool.and_eq_true] at h'
    exact tshapesL_get (i := i) h'.2 e
theorem tdepthL_get : ∀ {l : List U} {i : Nat} {v : U}, l[i]? = some v → tdepth v ≤ tdepthL l
  | [], _, _, e => by simp at e
  | a :: l, 0, v, e => by
    rw [← Option.some.inj e]
    show tdepth a ≤ max (tdepth a) (tdepthL l)
    omega
  | a :: l, i + 1, v, e => by
    have := tdepthL_get (i := i) (l := l) e
    show tdepth v ≤ max (tdepth a) (tdepthL l)
    omega
theorem tsizeL_get : ∀ {l : List U} {i : Nat} {v : U}, l[i]? = some v → tsize v ≤ tsizeL l
  | [], _, _, e => by simp at e
  | a :: l, 0, v, e => by
    rw [← Option.some.inj e]
    show tsize a ≤ tsize a + tsizeL l
    omega
  | a :: l, i + 1, v, e => by
    have := tsizeL_get (i := i) (l := l) e
    show tsize v ≤ tsize a + tsizeL l
    omega
end N
namespace N
open PySem L2
/-- a tuple of a level and a value -/
def MetW (C : Addr) (H H1 : Hp) (u : V) (p : Nat × U) : Prop := ∃ (q : Addr) (x : V), u = .ref q ∧ H1 q = some (.tup [.int (p.1 : Int), x]) ∧ Rep C H x p.2
theorem MetW.mono {C : Addr} {H H1 H2 : Hp} {u : V} {p : Nat × U} (e : Same H1 H2) (h : MetW C H H1 u p) : MetW C H H2 u p := by
  obtain ⟨q, x, a, b, c⟩ := h
  exact ⟨q, x, a, e _ _ b, c⟩
theorem MetW.mut {C : Addr} {H H1 : Hp} {u : V} {p : Nat × U} {l : Addr} {xs ys : List V} (hl : H1 l = some (.lst xs)) (h : MetW C H H1 u p) : MetW C H (upd H1 l (.lst ys)) u p := by
  obtain ⟨q, x, a, b, c⟩ := h
  exact ⟨q, x, a, by rw [upd_ne (ne_of b hl (by intro z; cases z))]; exact b, c⟩
def MetV (C : Addr) (H : Hp) (u : V) (p : Nat × U) : Prop := ∃ (q : Addr) (x : V), u = .ref q ∧ H q = some (.tup [.int (p.1 : Int), x]) ∧ Rep C H x p.2
theorem MetV.mono {C : Addr} {H H' : Hp} {u : V} {p : Nat × U} (e : Same H H') (h : MetV C H u p) : MetV C H' u p := by
  obtain ⟨q, x, a, b, c⟩ := h
  exact ⟨q, x, a, e _ _ b, c.mono e⟩
theorem Paired.map_R {α β : Type} {R S : α → β → Prop} (f : ∀ a b, R a b → S a b) : ∀ {xs : List α} {ys : List β}, Paired R xs ys → Paired S xs ys
  | _, _, .nil => .nil
  | _, _, .cons a b => .cons (f _ _ a) (Paired.map_R f b)
theorem Paired.get2 {α β : Type} {R : α → β → Prop} : ∀ {xs : List α} {ys : List β} {i : Nat} {x : α}, Paired R xs ys → xs[i]? = some x → ∃ y, ys[i]? = some y ∧ R x y
  | _, _, _, _, .nil, e => by simp at e
  | _, _, 0, _, .cons h _, e => ⟨_, rfl, by rw [← Option.some.inj e]; exact h⟩
  | _, _, i + 1, _, .cons _ t, e => by
    obtain ⟨v, a, b⟩ := Paired.get2 (i := i) t e
    exact ⟨v, a, b⟩
theorem Paired.last {α β : Type} {R : α → β → Prop} : ∀ {xs : List α} {ys : List β}, Paired R xs ys → ys ≠ [] → ∃ (x : α) (xs' : List α) (y : β) (ys' : List β), xs = xs' ++ [x] ∧ ys = ys' ++ [y] ∧ R x y ∧ Paired R xs' ys'
  | _, _, .nil, h => absurd rfl h
  | _, _, .cons a t, _ => by
    cases t with
    | nil => exact ⟨_, [], _, [], rfl, rfl, a, .nil⟩
    | cons b t =>
      obtain ⟨x, xs', y, ys', e1, e2, r, p⟩ := Paired.last (.cons b t) (by simp)
      exact ⟨x, _ :: xs', y, _ :: ys', by rw [e1]; rfl, by rw [e2]; rfl, r, .cons a p⟩
def spWalk (C : Addr) : Sp := fun vs H Q _ => ∃ (u : V) (v : U), vs = [u] ∧ Rep C H u v ∧ tsize v ≤ 1000000 ∧
  ∀ (p : Addr) (us : List V) (H' : Hp), Same H H' → H' p = some (.lst us) → Paired (MetV C H') us (pre 0 v) → Q (.ref p) H'
/-- the stack's walk -/
def preS (ws : List (Nat × U)) : List (Nat × U) := ws.reverse.flatMap fun p => pre p.1 p.2
def sizeS (ws : List (Nat × U)) : Nat := (ws.map fun p => tsize p.2).sum
theorem preS_pop (ws : List (Nat × U)) (p : Nat × U) : preS (ws ++ [p]) = pre p.1 p.2 ++ preS ws := by
  unfold preS
  rw [List.reverse_append]
  rfl
theorem preL_flat (lv : Nat) : ∀ l : List U, preL lv l = (l.map fun v => (lv, v)).flatMap fun p => pre p.1 p.2
  | [] => rfl
  | v :: l => by
    show pre lv v ++ preL lv l = _
    rw [preL_flat lv l, List.map_cons, List.flatMap_cons]
theorem preS_push (ws : List (Nat × U)) (lv : Nat) (l : List U) : preS (ws ++ (l.map fun v => (lv, v)).reverse) = preL lv l ++ preS ws := by
  unfold preS
  rw [List.reverse_append, List.reverse_reverse, List.flatMap_append, preL_flat]
theorem sizeS_append (a b : List (Nat × U)) : sizeS (a ++ b) = sizeS a + sizeS b := by
  unfold sizeS
  rw [List.map_append, List.sum_append]
theorem sizeS_push (lv : Nat) (l : List U) : sizeS (l.map fun v => (lv, v)).reverse = tsizeL l := by
  unfold sizeS
  rw [List.map_reverse, List.sum_reverse, List.map_map]
  induction l with
  | nil => rfl
  | cons v l ih =>
    rw [List.map_cons, List.sum_cons, ih]
    rfl
theorem len_sizeS : ∀ ws : List (Nat × U), ws.length ≤ sizeS ws
  | [] => Nat.le_refl _
  | p :: ws => by
    have h1 := len_sizeS ws
    have h2 := tsize_pos p.2
    unfold sizeS at h1 ⊢
    rw [List.map_cons, List.sum_cons, List.length_cons]
    omega
section
variable {P : Program} {w : World} {K : PySem.W.Frag} {mg : Str → Option Value} {base : Heap} {CArr : Addr}
theorem sc_walk : FnScope ["u", "met", "waiting", "level", "value", "member"] ["u"] (defScope sWalk) := ⟨rfl, rfl, rfl, by decide +kernel, rfl, by decide +kernel, by decide +kernel⟩
theorem ok_walk (T : Top1 K mg "walk" sWalk ["u"]) (b_len : mg "len" = none) (b_reversed : mg "reversed" = none) (F_Arr : ClF K CArr ["extents", "members"]) (D_is_number : Def P w K mg base CX0 "is_number" 1 ["u"] (spIsNum CArr)) : Def P w K mg base CX0 "walk" 2 ["u"] (spWalk CArr) := by
  refine T.ok sc_walk (fun vs H Q E h => ?_) (fun f cdv A outer s H vs Q E hr h => ?_)
  · obtain ⟨u, v, rfl, _⟩ := h
    rfl
  obtain ⟨u, v, rfl, hu, hz, q⟩ := h
  refine ⟨_, (pss_cons (ps_set (i := 1) sc_walk.nd rfl (Or.inl rfl) (pe_lst pa_nil)) (pss_cons (ps_set (i := 2) sc_walk.nd rfl (Or.inl rfl) (pe_lst (pa_cons (pe_tup (pa_cons pe_int (pa_cons (pv 0) pa_nil))) pa_nil))) (pss_cons (ps_while PassesOwn.never (pt_cmpR op_gt (pe_callB call_len_seq (by rfl) b_len (by decide +kernel) (pa_cons (pv 2) pa_nil)) pe_int (nomark _)) (pss_cons (ps_asg (pe_bm0 PySem.F.plainAttrs_list PySem.F.slot_list_pop PySem.F.type_list_pop mt_pop (pv 2)) (pg_tup rfl (pgs_cons (pg_name (i := 3) sc_walk.nd rfl (Or.inl rfl)) (pgs_cons (pg_name (i := 4) sc_walk.nd rfl (Or.inl rfl)) pgs_nil)))) (pss_cons (ps_expr (pe_bm PySem.F.plainAttrs_list PySem.F.slot_list_append PySem.F.type_list_append mt_append (pv 1) (pa_cons (pe_tup (pa_cons (pv 3) (pa_cons (pv 4) pa_nil))) pa_nil))) (pss_one (ps_if (pt_not (pt_val (pe_fn D_is_number (hr.mono (by decide)) pass0 (pa_cons (pv 4) pa_nil)))) (pss_one (ps_for PassesOwn.never rfl (pi_reversed rfl b_reversed (pa_cons (pe_fld (pv 4) rfl) pa_nil)) (pg_name (i := 5) sc_walk.nd rfl (Or.inl rfl)) (pss_one (ps_expr (pe_bm PySem.F.plainAttrs_list PySem.F.slot_list_append PySem.F.type_list_append mt_append (pv 2) (pa_cons (pe_tup (pa_cons (pe_op op_add (pv 3) pe_int) (pa_cons (pv 5) pa_nil))) pa_nil)))))) pss_nil))))) (pss_one (ps_ret (pv 1)))))), ?_⟩
  refine ⟨Nat.zero_le _, fun l hl => ?_⟩
  have s0 : Same H (upd H l (.lst [])) := same_new hl _
  refine ⟨_, rfl, by show 2 ≤ sizeLine; decide, fun p0 hp0 => ?_⟩
  have s1 : Same H (upd (upd H l (.lst [])) p0 (.tup [.int 0, u])) := s0.trans (same_new hp0 _)
  refine ⟨by show 1 ≤ sizeLine; decide, fun wl hwl => ?_⟩
  have s2 := s1.trans (same_new hwl (.lst [.ref p0]))
  have nlp : l ≠ p0 := fun z => by rw [← z, upd_same] at hp0; cases hp0
  have nlw : l ≠ wl := fun z => by rw [← z, upd_ne nlp, upd_same] at hwl; cases hwl
  have npw : p0 ≠ wl := fun z => by rw [← z, upd_same] at hwl; cases hwl
  have fl : H l = none := hl
  have fw : H wl = none := s1.free hwl
  have gEx := F_Arr.no "members" (by simp)
  refine ⟨fun m σ H1 => ∃ (us wvs : List V) (ms ws : List (Nat × U)) (a b c : Option V), σ = [some u, some (.ref l), some (.ref wl), a, b, c] ∧ Same H H1 ∧ H1 l = some (.lst us) ∧ H1 wl = some (.lst wvs) ∧ Paired (MetW CArr H H1) us ms ∧ Paired (MetW CArr H H1) wvs ws ∧
      ms ++ preS ws = pre 0 v ∧ m = sizeS ws, ⟨tsize v, ?_⟩, ?_⟩
  · refine ⟨[], [.ref p0], [], [(0, v)], none, none, none, rfl, s2, ?_, upd_same, .nil, .cons ⟨p0, u, rfl, ?_, hu⟩ .nil, ?_, ?_⟩
    · rw [upd_ne nlw, upd_ne nlp, upd_same]
    · rw [upd_ne npw, upd_same]
      rfl
    · show pre 0 v ++ [] = _
      rw [List.append_nil]
    · show tsize v = tsize v + 0
      omega
  rintro m σ H1 ⟨us, wvs, ms, ws, a, b, c, rfl, e1, hl1, hw1, pm, pw, hpre, rfl⟩
  refine ⟨_, rfl, wl, wvs, rfl, .inl (SqL.of hw1), _, _, rfl, rfl, _, rfl, ?_⟩
  have hlen := congrArg List.length hpre
  rw [List.length_append, pre_len] at hlen
  have hlw : wvs.length = ws.length := Paired.length pw
  have hlu : us.length = ms.length := Paired.length pm
  by_cases hne : ws = []
  · subst hne
    refine itF (by rw [hlw]; decide) ⟨_, rfl, q l us H1 e1 hl1 ?_⟩
    have e0 : ms = pre 0 v := by rw [← hpre]; exact (List.append_nil ms).symm
    rw [← e0]
    exact Paired.map_R (fun u' p' ⟨q', x', h1, h2, h3⟩ => ⟨q', x', h1, h2, h3.mono e1⟩) pm
  have hpos : 0 < ws.length := List.length_pos_iff.mpr hne
  obtain ⟨tp, wvs', pr, ws', rfl, rfl, ⟨q0, x, rfl, hq0, hx⟩, pw'⟩ := Paired.last pw hne
  obtain ⟨lv, vv⟩ := pr
  rw [preS_pop] at hpre
  have hS : sizeS (ws' ++ [(lv, vv)]) = sizeS ws' + tsize vv := by
    rw [sizeS_append]
    show _ + (tsize vv + 0) = _
    omega
  have hSl : (preS (ws' ++ [(lv, vv)])).length = sizeS (ws' ++ [(lv, vv)]) := by
    have : ∀ zs : List (Nat × U), (preS zs).length = sizeS zs := fun zs => by
      unfold preS sizeS
      rw [List.length_flatMap, List.map_reverse, List.sum_reverse]
      congr 1
      exact List.map_congr_left fun p _ => pre_len p.1 p.2
    exact this _
  rw [hSl, hS] at hlen
  have hlw' := len_sizeS ws'
  refine itT (by rw [hlw]; omega) ⟨fun σ' H' => ∃ m', m' < sizeS (ws' ++ [(lv, vv)]) ∧ _, fun σ' H' h => h, ?_⟩
  -- level, value = waiting.pop()
  refine ⟨_, rfl, .inl ⟨rfl, _, SqL.of hw1⟩, wl, _, _, rfl, rfl, hw1, by rw [List.length_append, List.length_singleton, Nat.add_sub_cancel, List.getElem?_append_right (Nat.le_refl _), Nat.sub_self]; rfl, ?_⟩
  rw [List.dropLast_concat]
  have nq : q0 ≠ wl := ne_of hq0 hw1 (by intro z; cases z)
  have hq0' : (upd H1 wl (.lst wvs')) q0 = some (.tup [.int (lv : Int), x]) := by rw [upd_ne nq]; exact hq0
  have e2 : Same H (upd H1 wl (.lst wvs')) := Same.mut e1 fw
  have hl2 : (upd H1 wl (.lst wvs')) l = some (.lst us) := by rw [upd_ne nlw]; exact hl1
  have pm2 : Paired (MetW CArr H (upd H1 wl (.lst wvs'))) us ms := Paired.map_R (fun _ _ h => h.mut hw1) pm
  have pw2 : Paired (MetW CArr H (upd H1 wl (.lst wvs'))) wvs' ws' := Paired.map_R (fun _ _ h => h.mut hw1) pw'
  have hw2 : (upd H1 wl (.lst wvs')) wl = some (.lst wvs') := upd_same
  generalize upd H1 wl (.lst wvs') = H2 at *
  refine ⟨q0, _, rfl, SqT.of hq0', rfl, _, _, rfl, _, _, rfl, rfl, ?_⟩
  -- met.append((level, value))
  refine ⟨_, rfl, .inl ⟨rfl, _, SqL.of hl2⟩, _, rfl, _, rfl, by show 2 ≤ sizeLine; decide, fun p hp => ?_⟩
  have e3 := same_new hp (.tup [.int (lv : Int), x])
  have hl3 := e3 _ _ hl2
  refine ⟨l, us, _, rfl, rfl, hl3, Nat.lt_of_le_of_lt (show us.length ≤ 1000000 by omega) (by decide), ?_⟩
  have e4 : Same H (upd (upd H2 p (.tup [.int (lv : Int), x])) l (.lst (us ++ [.ref p]))) := Same.mut (e2.trans e3) fl
  have hw4 : (upd (upd H2 p (.tup [.int (lv : Int), x])) l (.lst (us ++ [.ref p]))) wl = some (.lst wvs') := by rw [upd_ne (Ne.symm nlw)]; exact e3 _ _ hw2
  have hl4 : (upd (upd H2 p (.tup [.int (lv : Int), x])) l (.lst (us ++ [.ref p]))) l = some (.lst (us ++ [.ref p])) := upd_same
  have pm4 : Paired (MetW CArr H (upd (upd H2 p (.tup [.int (lv : Int), x])) l (.lst (us ++ [.ref p])))) (us ++ [.ref p]) (ms ++ [(lv, vv)]) := by
    refine Paired.snoc (Paired.map_R (fun _ _ h => (h.mono e3).mut hl3) pm2) ?_
    exact MetW.mut hl3 ⟨p, x, rfl, upd_same, hx⟩
  have pw4 : Paired (MetW CArr H (upd (upd H2 p (.tup [.int (lv : Int), x])) l (.lst (us ++ [.ref p])))) wvs' ws' := Paired.map_R (fun _ _ h => (h.mono e3).mut hl3) pw2
  generalize upd (upd H2 p (.tup [.int (lv : Int), x])) l (.lst (us ++ [.ref p])) = H4 at *
  refine ⟨_, rfl, x, vv, rfl, hx.mono e4, _, rfl, ?_⟩
  cases vv with
  | num n =>
    refine iteF ⟨sizeS ws', ?_, us ++ [.ref p], wvs', ms ++ [(lv, .num n)], ws', _, _, _, rfl, e4, hl4, hw4, pm4, pw4, ?_, rfl⟩
    · rw [hS]
      show sizeS ws' < sizeS ws' + 1
      omega
    · rw [List.append_assoc]
      exact hpre
  | arr s lst =>
    obtain ⟨y, dx, ey, my, um, rfl, hy, hey, hmy, hbs, hrs⟩ := hx.of_arr
    have hlm : um.length = lst.length := hrs.length
    have hts : tsize (.arr s lst) = 1 + tsizeL lst := rfl
    rw [hts] at hlen hS
    have hll := len_tsizeL lst
    refine iteT ⟨_, rfl, y, CArr, dx, _, _, rfl, e4 _ _ hy, F_Arr.cl, gEx, arrF_mem _ _, my, um, rfl, SqL.of (e4 _ _ hmy), ?_⟩
    refine RT.for_Itv (K := K) (a := my) (xs := um) (fun i σ H5 => i ≤ lst.length ∧ ∃ (wv2 : List V) (c' : Option V), σ = [some u, some (.ref l), some (.ref wl), some (.int (lv : Int)), some (.ref y), c'] ∧ Same H H5 ∧ H5 l = some (.lst (us ++ [.ref p])) ∧ H5 wl = some (.lst wv2) ∧
      Paired (MetW CArr H H5) (us ++ [.ref p]) (ms ++ [(lv, .arr s lst)]) ∧ Paired (MetW CArr H H5) wv2 (ws' ++ ((lst.map fun v => (lv + 1, v)).reverse.take i))) ⟨Nat.zero_le _, wvs', c, rfl, e4, hl4, hw4, pm4, by rw [List.take_zero, List.append_nil]; exact pw4⟩ (fun i σ H5 h => ?_) ?_ ?_
    · obtain ⟨_, _, _, _, e5, _⟩ := h
      exact SqL.of (e5 _ _ hmy)
    · rintro i z σ H5 hi hz ⟨hile, wv2, c', rfl, e5, hl5, hw5, pm5, pw5⟩
      obtain ⟨vz, hvz, hrz⟩ := hrs.get hz
      have hlw5 : wv2.length = ws'.length + i := by
        rw [Paired.length pw5, List.length_append, List.length_take, List.length_reverse, List.length_map]
        omega
      refine ⟨_, rfl, .inl ⟨rfl, _, SqL.of hw5⟩, _, rfl, _, _, rfl, rfl, _, rfl, by show 2 ≤ sizeLine; decide, fun t ht => ?_⟩
      have e6 := same_new ht (.tup [.int ((lv : Int) + 1), z])
      have hw6 := e6 _ _ hw5
      refine ⟨wl, wv2, _, rfl, rfl, hw6, Nat.lt_of_le_of_lt (show wv2.length ≤ 2000000 by omega) (by decide), ?_⟩
      refine ⟨by omega, wv2 ++ [.ref t], some z, rfl, Same.mut (e5.trans e6) fw, by rw [upd_ne nlw]; exact e6 _ _ hl5, upd_same, Paired.map_R (fun _ _ h => (h.mono e6).mut hw6) pm5, ?_⟩
      have hrev : (lst.map fun v => (lv + 1, v)).reverse[i]? = some (lv + 1, vz) := by
        rw [List.getElem?_reverse (by rw [List.length_map]; omega), List.length_map, List.getElem?_map, ← hlm, hvz]
        rfl
      rw [take_more hrev, ← List.append_assoc]
      exact Paired.snoc (Paired.map_R (fun _ _ h => (h.mono e6).mut hw6) pw5) (MetW.mut hw6 ⟨t, z, rfl, upd_same, hrz⟩)
    · rintro σ H5 ⟨hile, wv2, c', rfl, e5, hl5, hw5, pm5, pw5⟩
      rw [hlm, List.take_of_length_le (by rw [List.length_reverse, List.length_map]; exact Nat.le_refl _)] at pw5
      refine ⟨_, ?_, us ++ [.ref p], wv2, ms ++ [(lv, .arr s lst)], _, _, _, c', rfl, e5, hl5, hw5, pm5, pw5, ?_, rfl⟩
      · rw [hS, sizeS_append, sizeS_push]
        omega
      · rw [List.append_assoc, preS_push]
        exact hpre
end
end N
namespace N
open PySem L2
def spDeepest (K : PySem.W.Frag) (C : Addr) : Sp := fun vs H Q _ => ∃ (p : Addr) (us : List V) (ms : List (Nat × U)), vs = [.ref p] ∧ SqL K H p us ∧ Paired (MetV C H) us ms ∧ Q (.int ((deepOf ms : Nat) : Int)) H
section
variable {P : Program} {w : World} {K : PySem.W.Frag} {mg : Str → Option Value} {base : Heap} {CArr : Addr}
theorem sc_deepest : FnScope ["met", "depth", "level", "value"] ["met"] (defScope sDeepest) := ⟨rfl, rfl, rfl, by decide +kernel, rfl, by decide +kernel, by decide +kernel⟩
theorem ok_deepest (T : Top1 K mg "deepest" sDeepest ["met"]) (b_max : mg "max" = none) (D_is_number : Def P w K mg base CX0 "is_number" 1 ["u"] (spIsNum CArr)) : Def P w K mg base CX0 "deepest" 2 ["met"] (spDeepest K CArr) := by
  refine T.ok sc_deepest (fun vs H Q E h => ?_) (fun f cdv A outer s H vs Q E hr h => ?_)
  · obtain ⟨p, us, ms, rfl, _⟩ := h
    rfl
  obtain ⟨p, us, ms, rfl, hS, hp, q⟩ := h
  have hl := Paired.length hp
  refine ⟨_, (pss_cons (ps_set (i := 1) sc_deepest.nd rfl (Or.inl rfl) pe_int) (pss_cons (ps_for PassesOwn.never rfl (pi_list (pv 0)) (pg_tup rfl (pgs_cons (pg_name (i := 2) sc_deepest.nd rfl (Or.inl rfl)) (pgs_cons (pg_name (i := 3) sc_deepest.nd rfl (Or.inl rfl)) pgs_nil))) (pss_one (ps_if (pt_not (pt_val (pe_fn D_is_number (hr.mono (by decide)) pass0 (pa_cons (pv 3) pa_nil)))) (pss_one (ps_set (i := 1) sc_deepest.nd rfl (Or.inl rfl) (pe_callB (call_max2 rfl) (by rfl) b_max (by decide +kernel) (pa_cons (pv 1) (pa_cons (pe_op op_add (pv 2) pe_int) pa_nil))))) pss_nil))) (pss_one (ps_ret (pv 1))))), ?_⟩
  refine ⟨_, rfl, p, rfl, ⟨_, hS⟩, for_list (K := K) (a := p) (xs := us) (fun i σ H' => H' = H ∧ ∃ a b, σ = [some (.ref p), some (.int ((deepOf (ms.take i) : Nat) : Int)), a, b]) ⟨rfl, none, none, rfl⟩ (fun i σ H' _ h => h.1 ▸ hS) ?_ ?_⟩
  · rintro i y σ H' hi ⟨rfl, a, b, rfl⟩
    obtain ⟨⟨lv, v⟩, hm, q0, x, rfl, hq, hx⟩ := Paired.get2 hp hi
    refine ⟨q0, _, rfl, SqT.of hq, rfl, _, _, rfl, _, _, rfl, rfl, ?_⟩
    refine ⟨_, rfl, x, v, rfl, hx, _, rfl, ?_⟩
    have e : deepOf (ms.take (i + 1)) = deepStep (deepOf (ms.take i)) (lv, v) := by
      unfold deepOf
      rw [take_more hm, List.foldl_append]
      rfl
    cases v with
    | num n =>
      refine iteF ⟨rfl, some (.int (lv : Int)), some x, ?_⟩
      rw [e]
      rfl
    | arr s l =>
      refine iteT ⟨_, rfl, _, rfl, _, _, rfl, rfl, _, _, rfl, rfl, some (.int (lv : Int)), some x, ?_⟩
      rw [e]
      show [some (V.ref p), some (V.int (if (lv : Int) + 1 > ((deepOf (ms.take i) : Nat) : Int) then (lv : Int) + 1 else ((deepOf (ms.take i) : Nat) : Int))), some (V.int (lv : Int)), some x] = [some (V.ref p), some (V.int ((max (deepOf (ms.take i)) (lv + 1) : Nat) : Int)), some (V.int (lv : Int)), some x]
      have e2 : (if (lv : Int) + 1 > ((deepOf (ms.take i) : Nat) : Int) then (lv : Int) + 1 else ((deepOf (ms.take i) : Nat) : Int)) = ((max (deepOf (ms.take i)) (lv + 1) : Nat) : Int) := by
        split <;> omega
      rw [e2]
  · rintro σ H' ⟨rfl, a, b, rfl⟩
    rw [hl, List.take_length]
    exact ⟨_, rfl, q⟩
end
end N
namespace N
open PySem L2
def spLimits (C : Addr) : Sp := fun vs H Q _ => ∃ (u : V) (v : U), vs = [u] ∧ Rep C H u v ∧ tsize v ≤ 1000000 ∧ ∀ H', Same H H' → Q (.bl (tlim v)) H'
section
variable {P : Program} {w : World} {K : PySem.W.Frag} {mg : Str → Option Value} {base : Heap} {CArr : Addr}
theorem sc_within_limits : FnScope ["u", "met"] ["u"] (defScope sWithinLimits) := ⟨rfl, rfl, rfl, by decide +kernel, rfl, by decide +kernel, by decide +kernel⟩
theorem ok_within_limits (T : Top1 K mg "within_limits" sWithinLimits ["u"]) (c_MOST_DEPTH : CI mg "MOST_DEPTH" 8) (c_MOST_SIZE : CI mg "MOST_SIZE" 512) (b_len : mg "len" = none) (D_deepest : Def P w K mg base CX0 "deepest" 2 ["met"] (spDeepest K CArr)) (D_walk : Def P w K mg base CX0 "walk" 2 ["u"] (spWalk CArr)) : Def P w K mg base CX0 "within_limits" 3 ["u"] (spLimits CArr) := by
  refine T.ok sc_within_limits (fun vs H Q E h => ?_) (fun f cdv A outer s H vs Q E hr h => ?_)
  · obtain ⟨u, v, rfl, _⟩ := h
    rfl
  obtain ⟨u, v, rfl, hu, hz, q⟩ := h
  refine ⟨_, (pss_cons (ps_set (i := 1) sc_within_limits.nd rfl (Or.inl rfl) (pe_fn D_walk (hr.mono (by decide)) pass0 (pa_cons (pv 0) pa_nil))) (pss_one (ps_ret (pe_and (pe_cmpR op_le (pe_callB call_len_seq (by rfl) b_len (by decide +kernel) (pa_cons (pv 1) pa_nil)) (pe_ci c_MOST_SIZE) (nomark _)) (pe_one (pe_cmpR op_le (pe_fn D_deepest (hr.mono (by decide)) pass0 (pa_cons (pv 1) pa_nil)) (pe_ci c_MOST_DEPTH) (nomark _))))))), ?_⟩
  refine ⟨_, rfl, u, v, rfl, hu, hz, fun p us H1 e1 hp hm => ?_⟩
  have hl := Paired.length hm
  rw [pre_len] at hl
  refine ⟨_, rfl, p, _, rfl, .inl (SqL.of hp), _, _, rfl, rfl, _, rfl, ?_⟩
  rw [hl]
  unfold tlim at q
  by_cases h1 : tsize v ≤ 512
  · refine itT (by omega) ⟨_, rfl, p, us, _, rfl, SqL.of hp, hm, _, _, rfl, rfl, ?_⟩
    rw [deepOf_pre]
    have q' : Q (.bl (decide (((tdepth v : Nat) : Int) ≤ 8))) H1 := by
      have e : decide (((tdepth v : Nat) : Int) ≤ 8) = decide (tsize v ≤ 512 ∧ tdepth v ≤ 8) := decide_eq_decide.mpr ⟨fun z => ⟨h1, by omega⟩, fun z => by omega⟩
      rw [e]
      exact q _ e1
    exact q'
  · rw [decide_eq_false (fun z => h1 z.1)] at q
    exact itF (by omega) (q _ e1)
end
end N
namespace N
open PySem L2
/-- product(numbers) of small numbers of 0 or more -/
def spProduct (K : PySem.W.Frag) : Sp := fun vs H Q _ => ∃ (a : Addr) (s : List Nat), vs = [.ref a] ∧ SqL K H a (Bs s) ∧ (∀ n ∈ s, n ≤ 1000000000000000000) ∧ Q (.int ((Vaarrm.product s : Nat) : Int)) H
section
variable {P : Program} {w : World} {K : PySem.W.Frag} {mg : Str → Option Value} {base : Heap}
theorem sc_product : FnScope ["numbers", "total", "n"] ["numbers"] (defScope sProduct) := ⟨rfl, rfl, rfl, by decide +kernel, rfl, by decide +kernel, by decide +kernel⟩
theorem ok_product (T : Top1 K mg "product" sProduct ["numbers"]) : Def P w K mg base CX0 "product" 1 ["numbers"] (spProduct K) := by
  refine T.ok sc_product (fun vs H Q E h => ?_) (fun f cdv A outer s H vs Q E hr h => ?_)
  · obtain ⟨a, s, rfl, _⟩ := h
    rfl
  obtain ⟨a, s, rfl, hS, hb, q⟩ := h
  refine ⟨_, (pss_cons (ps_set (i := 1) sc_product.nd rfl (Or.inl rfl) pe_int) (pss_cons (ps_for PassesOwn.never rfl (pi_list (pv 0)) (pg_name (i := 2) sc_product.nd rfl (Or.inl rfl)) (pss_one (ps_set (i := 1) sc_product.nd rfl (Or.inl rfl) (pe_op op_mul (pv 1) (pv 2))))) (pss_one (ps_ret (pv 1))))), ?_⟩
  refine ⟨_, rfl, a, rfl, ⟨_, hS⟩, for_list (K := K) (a := a) (xs := Bs s) (fun i σ H' => H' = H ∧ ∃ v, σ = [some (.ref a), some (.int ((Vaarrm.product (s.take i) : Nat) : Int)), v]) ⟨rfl, none, rfl⟩ (fun i σ H' _ h => h.1 ▸ hS) ?_ ?_⟩
  · rintro i y σ H' hi ⟨rfl, v, rfl⟩
    obtain ⟨n, hn, rfl⟩ := Bs_get hi
    have hle := hb n (List.mem_of_getElem? hn)
    refine ⟨_, rfl, _, rfl, _, _, rfl, rfl, .inr ⟨by omega, by omega⟩, rfl, some (.int (n : Int)), ?_⟩
    rw [take_more hn, prod_snoc, Int.natCast_mul]
    rfl
  · rintro σ H' ⟨rfl, v, rfl⟩
    rw [Bs_len, List.take_length]
    exact ⟨_, rfl, q⟩
end
end N
namespace N
open PySem L2
/-- is_shape(extents) -/
def spIsShape (K : PySem.W.Frag) : Sp := fun vs H Q _ => ∃ (a : Addr) (s : List Nat), vs = [.ref a] ∧ H a = some (.lst (Bs s)) ∧ (∀ n ∈ s, n ≤ 1000000000000000000) ∧ ∀ H', Same H H' → Q (.bl (Vaarrm.shapeOk s)) H'
section
variable {P : Program} {w : World} {K : PySem.W.Frag} {mg : Str → Option Value} {base : Heap}
theorem sc_is_shape : FnScope ["extents", "e"] ["extents"] (defScope sIsShape) := ⟨rfl, rfl, rfl, by decide +kernel, rfl, by decide +kernel, by decide +kernel⟩
theorem ok_is_shape (T : Top1 K mg "is_shape" sIsShape ["extents"]) (c_MOST_PRODUCT : CI mg "MOST_PRODUCT" 256) (c_MOST_RANK : CI mg "MOST_RANK" 4) (b_len : mg "len" = none) (D_product : Def P w K mg base CX0 "product" 1 ["numbers"] (spProduct K)) : Def P w K mg base CX0 "is_shape" 2 ["extents"] (spIsShape K) := by
  refine T.ok sc_is_shape (fun vs H Q E h => ?_) (fun f cdv A outer s H vs Q E hr h => ?_)
  · obtain ⟨a, s, rfl, _⟩ := h
    rfl
  obtain ⟨a, s, rfl, ha, hb, q⟩ := h
  have hS : SqL K H a (Bs s) := SqL.of ha
  refine ⟨_, (pss_cons (ps_if (pt_cmpR op_gt (pe_callB call_len_seq (by rfl) b_len (by decide +kernel) (pa_cons (pv 0) pa_nil)) (pe_ci c_MOST_RANK) (nomark _)) (pss_one (ps_ret pe_bl)) pss_nil) (pss_one (ps_ret (pe_cmpR op_le (pe_fn D_product (hr.mono (by decide)) pass0 (pa_cons (pe_lc (own := [("e", 1)]) (g := gName 1) rfl sc_is_shape.nd (pi_list (pv 0)) (blkOk_by (own := [("e", 1)]) (N := ["extents", "e"]) (sc := defScope sIsShape) (by decide +kernel)) (fun _ _ _ _ _ => (pg_name (i := 1) sc_is_shape.nd rfl (Or.inl rfl))) (fun _ _ _ _ _ => (pts_one (pt_cmpR op_ne (pv 1) pe_int (nomark _)))) (fun _ _ _ _ _ => (pv 1))) pa_nil)) (pe_ci c_MOST_PRODUCT) (nomark _))))), ?_⟩
  refine ⟨_, rfl, a, _, rfl, .inl hS, _, _, rfl, rfl, _, rfl, ?_⟩
  rw [Bs_len]
  by_cases c : 4 < s.length
  · have e : Vaarrm.shapeOk s = false := by
      unfold Vaarrm.shapeOk
      rw [decide_eq_false (by omega)]
      rfl
    rw [e] at q
    exact itT (by omega) (q _ (Same.refl _))
  refine itF (by omega) ⟨_, rfl, a, rfl, ⟨_, hS⟩, fun D hD => ?_⟩
  have sD : ∀ o, Same H (upd H D o) := fun o => same_new hD o
  refine lc_list (K := K) (a := a) (xs := Bs s) (fun i H' => H' = upd H D (.lst (Bs ((s.take i).filter fun n => n != 0)))) rfl (fun i H' _ h => by rw [h]; exact (sD _).seq hS) ?_ ?_
  · rintro i y H' hi rfl
    obtain ⟨n, hn, rfl⟩ := Bs_get hi
    refine ⟨rfl, _, rfl, rfl, _, rfl, ?_⟩
    rw [take_more hn, List.filter_append]
    by_cases z : n = 0
    · subst z
      refine iteF ?_
      simp
    · have e : (!decide (V.int (n : Int) = V.int 0)) = true := by
        rw [decide_eq_false (by intro h; have := V.int.inj h; omega)]
        rfl
      rw [e]
      refine iteT ⟨_, rfl, _, upd_same, ?_, ?_⟩
      · have h1 : (Bs ((s.take i).filter fun n => n != 0)).length ≤ 4 := by
          rw [Bs_len]
          have h2 := List.length_filter_le (fun n => n != 0) (s.take i)
          have h3 : (s.take i).length ≤ s.length := by rw [List.length_take]; omega
          omega
        exact Nat.lt_of_le_of_lt h1 (by decide)
      · rw [upd_upd]
        have e2 : [n].filter (fun n => n != 0) = [n] := by simp [z]
        rw [e2]
        unfold Bs
        rw [List.map_append]
        rfl
  · rintro H' rfl
    rw [Bs_len, List.take_length]
    refine ⟨D, _, rfl, SqL.of upd_same, fun n hn => hb n (List.mem_filter.mp hn).1, ?_⟩
    refine ⟨_, _, rfl, rfl, ?_⟩
    have e : Vaarrm.shapeOk s = decide (((Vaarrm.product (s.filter fun n => n != 0) : Nat) : Int) ≤ 256) := by
      unfold Vaarrm.shapeOk
      rw [decide_eq_true (by omega), Bool.true_and]
      exact decide_eq_decide.mpr (by omega)
    rw [e] at q
    exact q _ (sD _)
end
end N
namespace N
open PySem L2
/-- make(extents, members): the extents' list at e, the items' at m -/
def spMake (C : Addr) : Sp := fun vs H Q _ => ∃ (Hf : Hp) (e m : Addr) (s : List Nat) (us : List V) (l : List U), vs = [.ref e, .ref m] ∧ Same Hf H ∧ Hf e = some (.lst (Bs s)) ∧ Hf m = some (.lst us) ∧ Reps C Hf us l ∧ (∀ n ∈ s, n ≤ 1000000000000000000) ∧ (s = [] → l.length = 1) ∧
  GotV C Q H Hf (Vaarrm.made s l)
section
variable {P : Program} {w : World} {K : PySem.W.Frag} {mg : Str → Option Value} {base : Heap} {CArr : Addr}
theorem made_cons (n : Nat) (s : List Nat) (l : List U) : Vaarrm.made (n :: s) l = .arr (n :: s) l := rfl
theorem sc_make : FnScope ["extents", "members"] ["extents", "members"] (defScope sMake) := ⟨rfl, rfl, rfl, by decide +kernel, rfl, by decide +kernel, by decide +kernel⟩
theorem ok_make (T : Top1 K mg "make" sMake ["extents", "members"]) (b_len : mg "len" = none) (D_Arr : DefC P w K mg base "Arr" CArr 1 ["self", "extents", "members"] (spArrInit CArr)) (D_is_number : Def P w K mg base CX0 "is_number" 1 ["u"] (spIsNum CArr)) : Def P w K mg base CX0 "make" 3 ["extents", "members"] (spMake CArr) := by
  refine T.ok sc_make (fun vs H Q E h => ?_) (fun f cdv A outer s H vs Q E hr h => ?_)
  · obtain ⟨Hf, e, m, s, us, l, rfl, _⟩ := h
    rfl
  obtain ⟨Hf, e, m, s, us, l, rfl, hs, he, hm, hl, hb, h1, q⟩ := h
  refine ⟨_, (pss_cons (ps_if (PW.pt (pw_and (pt_cmpR op_eq (pe_callB call_len_seq (by rfl) b_len (by decide +kernel) (pa_cons (pv 0) pa_nil)) pe_int (nomark _)) (pw_and1 (pt_val (pe_fn D_is_number (hr.mono (by decide)) pass0 (pa_cons (pe_ix ix_list (pv 1) pe_int (fun _ _ => rfl)) pa_nil)))))) (pss_one (ps_ret (pe_ix ix_list (pv 1) pe_int (fun _ _ => rfl)))) pss_nil) (pss_one (ps_ret (pe_new D_Arr (hr.mono (by decide)) (pa_cons (pv 0) (pa_cons (pv 1) pa_nil)))))), ?_⟩
  have he' := hs _ _ he
  have hm' := hs _ _ hm
  -- the new array
  have made : ∀ (x dx : Addr) (H2 : Hp), H x = none → Same H H2 → H2 x = some (.ins CArr dx (arrF e m)) → ∃ Hf', Grow H H2 Hf Hf' ∧ Rep CArr Hf' (.ref x) (.arr s l) := fun x dx H2 nx e2 hx => by
    have g := Grow.freeze hs (Grow.of hs e2) nx hx
    exact ⟨_, g, .arr upd_same (g.ff _ _ he) (g.ff _ _ hm) hb (hl.mono g.ff)⟩
  refine ⟨_, rfl, e, _, rfl, .inl (SqL.of he'), rfl, _, rfl, ?_⟩
  rw [Bs_len]
  cases s with
  | cons n s =>
    refine itF (by intro z; have := V.int.inj z; rw [List.length_cons] at this; omega) (iteF ⟨_, rfl, _, rfl, new_arr fun x dx H2 nx e2 hx => ?_⟩)
    obtain ⟨Hf', g, r⟩ := made x dx H2 nx e2 hx
    exact q _ _ _ g r
  | nil =>
    obtain ⟨v, rfl⟩ : ∃ v, l = [v] := by
      have := h1 rfl
      match l, this with
      | [v], _ => exact ⟨v, rfl⟩
    obtain ⟨u, rfl, hu⟩ : ∃ u, us = [u] ∧ Rep CArr Hf u v := by
      cases hl with
      | cons a t =>
        cases t
        exact ⟨_, rfl, a⟩
    refine itT rfl ⟨_, rfl, m, [u], 0, u, rfl, rfl, SqL.of hm', rfl, u, v, rfl, hu.mono hs, _, rfl, ?_⟩
    cases v with
    | num n =>
      exact iteT ⟨_, rfl, m, [u], 0, u, rfl, rfl, SqL.of hm', rfl, q _ _ _ (Grow.refl hs) hu⟩
    | arr s' l' =>
      refine iteF ⟨_, rfl, _, rfl, new_arr fun x dx H2 nx e2 hx => ?_⟩
      obtain ⟨Hf', g, r⟩ := made x dx H2 nx e2 hx
      exact q _ _ _ g r
end
end N
namespace N
open PySem L2
def spShapes (C : Addr) : Sp := fun vs H Q _ => ∃ (u : V) (v : U), vs = [u] ∧ Rep C H u v ∧ tsize v ≤ 1000000 ∧ ∀ H', Same H H' → Q (.bl (tshapes v)) H'
section
variable {P : Program} {w : World} {K : PySem.W.Frag} {mg : Str → Option Value} {base : Heap} {CArr : Addr}
theorem sc_all_shapes : FnScope ["u", "level", "value"] ["u"] (defScope sAllShapes) := ⟨rfl, rfl, rfl, by decide +kernel, rfl, by decide +kernel, by decide +kernel⟩
theorem ok_all_shapes (T : Top1 K mg "all_shapes" sAllShapes ["u"]) (F_Arr : ClF K CArr ["extents", "members"]) (D_walk : Def P w K mg base CX0 "walk" 2 ["u"] (spWalk CArr)) (D_is_shape : Def P w K mg base CX0 "is_shape" 2 ["extents"] (spIsShape K)) (D_is_number : Def P w K mg base CX0 "is_number" 1 ["u"] (spIsNum CArr)) : Def P w K mg base CX0 "all_shapes" 3 ["u"] (spShapes CArr) := by
  refine T.ok sc_all_shapes (fun vs H Q E h => ?_) (fun f cdv A outer s H vs Q E hr h => ?_)
  · obtain ⟨u, v, rfl, _⟩ := h
    rfl
  obtain ⟨u, v, rfl, hu, hz, q⟩ := h
  refine ⟨_, (pss_cons (ps_for PassesOwn.never rfl (pi_list (pe_fn D_walk (hr.mono (by decide)) pass0 (pa_cons (pv 0) pa_nil))) (pg_tup rfl (pgs_cons (pg_name (i := 1) sc_all_shapes.nd rfl (Or.inl rfl)) (pgs_cons (pg_name (i := 2) sc_all_shapes.nd rfl (Or.inl rfl)) pgs_nil))) (pss_one (ps_if (PW.pt (pw_and (pt_not (pt_val (pe_fn D_is_number (hr.mono (by decide)) pass0 (pa_cons (pv 2) pa_nil)))) (pw_and1 (pt_not (pt_val (pe_fn D_is_shape (hr.mono (by decide)) pass0 (pa_cons (pe_fld (pv 2) rfl) pa_nil))))))) (pss_one (ps_ret pe_bl)) pss_nil))) (pss_one (ps_ret pe_bl))), ?_⟩
  refine ⟨_, rfl, u, v, rfl, hu, hz, fun p us H1 e1 hp hm => ?_⟩
  have gEx := F_Arr.no "extents" (by simp)
  rw [← shapes_pre 0] at q
  generalize pre 0 v = ms at *
  have hl := Paired.length hm
  refine ⟨p, rfl, ⟨_, SqL.of hp⟩, for_list (K := K) (a := p) (xs := us) (fun i σ H' => Same H1 H' ∧ (ms.take i).all goodMet = true ∧ ∃ a b, σ = [some u, a, b]) ⟨Same.refl _, rfl, none, none, rfl⟩ (fun i σ H' _ h => h.1.seq (SqL.of hp)) ?_ ?_⟩
  · rintro i y σ H' hi ⟨e2, hg, a, b, rfl⟩
    obtain ⟨⟨lv, v'⟩, hmi, q0, x, rfl, hq, hx⟩ := Paired.get2 hm hi
    refine ⟨q0, _, rfl, SqT.of (e2 _ _ hq), rfl, _, _, rfl, _, _, rfl, rfl, ?_⟩
    have eT : (ms.take (i + 1)).all goodMet = goodMet (lv, v') := by
      rw [take_more hmi, List.all_append, hg]
      simp
    refine ⟨_, rfl, x, v', rfl, hx.mono e2, _, rfl, ?_⟩
    cases v' with
    | num n => exact iteF (iteF ⟨e2, eT, _, _, rfl⟩)
    | arr s l =>
      obtain ⟨z, dx, ez, mz, um, rfl, hz', hez, hmz, hbs, hrs⟩ := hx.of_arr
      refine iteT ⟨_, rfl, z, CArr, dx, _, _, rfl, e2 _ _ hz', F_Arr.cl, gEx, arrF_ext _ _, ez, s, rfl, e2 _ _ hez, hbs, fun H3 e3 => ⟨_, rfl, ?_⟩⟩
      have eT' : (ms.take (i + 1)).all goodMet = Vaarrm.shapeOk s := eT
      cases hs : Vaarrm.shapeOk s with
      | true => exact iteF ⟨e2.trans e3, by rw [eT', hs], _, _, rfl⟩
      | false =>
        refine iteT ?_
        have ef : ms.all goodMet = false := by
          have h1 : ms.all goodMet = ((ms.take (i + 1)).all goodMet && (ms.drop (i + 1)).all goodMet) := by rw [← List.all_append, List.take_append_drop]
          rw [h1, eT', hs]
          rfl
        rw [ef] at q
        exact q _ (e1.trans (e2.trans e3))
  · rintro σ H' ⟨e2, hg, a, b, rfl⟩
    rw [hl, List.take_length] at hg
    rw [hg] at q
    exact q _ (e1.trans e2)
end
end N
namespace N
open PySem L2
/-- may it come out -/
def outOk (v : U) : Bool := tlim v && tshapes v
def spComeOut (C CR : Addr) : Sp := fun vs H Q E => ∃ (u : V) (v : U), vs = [u] ∧ Rep C H u v ∧ tsize v ≤ 1000000 ∧ (outOk v = true → ∀ H', Same H H' → Q u H') ∧ (outOk v = false → Fails CR E H (-5))
section
variable {P : Program} {w : World} {K : PySem.W.Frag} {mg : Str → Option Value} {base : Heap} {CArr CRef fRef : Addr}
theorem sc_come_out : FnScope ["u"] ["u"] (defScope sComeOut) := ⟨rfl, rfl, rfl, by decide +kernel, rfl, by decide +kernel, by decide +kernel⟩
theorem ok_come_out (T : Top1 K mg "come_out" sComeOut ["u"]) (c_LIMIT : CI mg "LIMIT" (-5)) (R : PySem.RefX.RefTxt K mg CRef fRef) (D_all_shapes : Def P w K mg base CX0 "all_shapes" 3 ["u"] (spShapes CArr)) (D_within_limits : Def P w K mg base CX0 "within_limits" 3 ["u"] (spLimits CArr)) : Def P w K mg base (L2.CX P w) "come_out" 4 ["u"] (spComeOut CArr CRef) := by
  refine T.okX sc_come_out (fun vs H Q E h => ?_) (fun f cdv A outer s H vs Q E hr h => ?_)
  · obtain ⟨u, v, rfl, _⟩ := h
    rfl
  obtain ⟨u, v, rfl, hu, hz, q, qf⟩ := h
  refine ⟨_, (pss_cons (ps_if (PW.pt (pw_or (pt_not (pt_val (pe_fn D_within_limits (hr.mono (by decide)) pass0 (pa_cons (pv 0) pa_nil)))) (pw_or1 (pt_not (pt_val (pe_fn D_all_shapes (hr.mono (by decide)) pass0 (pa_cons (pv 0) pa_nil))))))) (pss_one (ps_raiseRef rfl R hr (takes_of rfl rfl rfl rfl) (pa_cons (pe_ci c_LIMIT) pa_nil))) pss_nil) (pss_one (ps_ret (pv 0)))), ?_⟩
  unfold outOk at q qf
  refine ⟨_, rfl, u, v, rfl, hu, hz, fun H1 e1 => ⟨_, rfl, ?_⟩⟩
  cases h1 : tlim v with
  | false =>
    rw [h1] at qf
    exact iteT (iteT ⟨_, rfl, fun d hd => qf rfl d _ (e1.trans (same_new hd _)) upd_same⟩)
  | true =>
    refine iteF ⟨_, rfl, u, v, rfl, hu.mono e1, hz, fun H2 e2 => ⟨_, rfl, ?_⟩⟩
    rw [h1, Bool.true_and] at q qf
    cases h2 : tshapes v with
    | false => exact iteT ⟨_, rfl, fun d hd => qf h2 d _ ((e1.trans e2).trans (same_new hd _)) upd_same⟩
    | true => exact iteF ⟨_, rfl, q h2 _ (e1.trans e2)⟩
end
end N
namespace N
open PySem L2
/-- close(extents, members) -/
def closeOk (s : List Nat) (l : List U) : Bool := Vaarrm.shapeOk s && decide (l.length = Vaarrm.product s)
def spClose (C CR : Addr) : Sp := fun vs H Q E => ∃ (Hf : Hp) (e m : Addr) (s : List Nat) (us : List V) (l : List U), vs = [.ref e, .ref m] ∧ Same Hf H ∧ Hf e = some (.lst (Bs s)) ∧ Hf m = some (.lst us) ∧ Reps C Hf us l ∧ (∀ n ∈ s, n ≤ 1000000000000000000) ∧
  (closeOk s l = true → GotV C Q H Hf (Vaarrm.made s l)) ∧ (closeOk s l = false → Fails CR E H (-4))
section
variable {P : Program} {w : World} {K : PySem.W.Frag} {mg : Str → Option Value} {base : Heap} {CArr CRef fRef : Addr}
theorem sc_close : FnScope ["extents", "members"] ["extents", "members"] (defScope sClose) := ⟨rfl, rfl, rfl, by decide +kernel, rfl, by decide +kernel, by decide +kernel⟩
theorem ok_close (T : Top1 K mg "close" sClose ["extents", "members"]) (c_SHAPE : CI mg "SHAPE" (-4)) (b_len : mg "len" = none) (R : PySem.RefX.RefTxt K mg CRef fRef) (D_make : Def P w K mg base CX0 "make" 3 ["extents", "members"] (spMake CArr)) (D_product : Def P w K mg base CX0 "product" 1 ["numbers"] (spProduct K)) (D_is_shape : Def P w K mg base CX0 "is_shape" 2 ["extents"] (spIsShape K)) : Def P w K mg base (L2.CX P w) "close" 4 ["extents", "members"] (spClose CArr CRef) := by
  refine T.okX sc_close (fun vs H Q E h => ?_) (fun f cdv A outer s H vs Q E hr h => ?_)
  · obtain ⟨Hf, e, m, s, us, l, rfl, _⟩ := h
    rfl
  obtain ⟨Hf, e, m, s, us, l, rfl, hs, he, hm, hl, hb, q, qf⟩ := h
  refine ⟨_, (pss_cons (ps_if (PW.pt (pw_or (pt_not (pt_val (pe_fn D_is_shape (hr.mono (by decide)) pass0 (pa_cons (pv 0) pa_nil)))) (pw_or1 (pt_cmpR op_ne (pe_fn D_product (hr.mono (by decide)) pass0 (pa_cons (pv 0) pa_nil)) (pe_callB call_len_seq (by rfl) b_len (by decide +kernel) (pa_cons (pv 1) pa_nil)) (nomark _))))) (pss_one (ps_raiseRef rfl R hr (takes_of rfl rfl rfl rfl) (pa_cons (pe_ci c_SHAPE) pa_nil))) pss_nil) (pss_one (ps_ret (pe_fn D_make (hr.mono (by decide)) pass0 (pa_cons (pv 0) (pa_cons (pv 1) pa_nil)))))), ?_⟩
  unfold closeOk at q qf
  refine ⟨_, rfl, e, s, rfl, hs _ _ he, hb, fun H1 e1 => ⟨_, rfl, ?_⟩⟩
  cases h1 : Vaarrm.shapeOk s with
  | false =>
    rw [h1] at qf
    exact iteT (iteT ⟨_, rfl, fun d hd => qf rfl d _ (e1.trans (same_new hd _)) upd_same⟩)
  | true =>
    rw [h1, Bool.true_and] at q qf
    refine iteF ⟨_, rfl, e, s, rfl, SqL.of (e1 _ _ (hs _ _ he)), hb, _, rfl, m, us, rfl, .inl (SqL.of (e1 _ _ (hs _ _ hm))), rfl, _, rfl, ?_⟩
    rw [hl.length]
    by_cases h2 : l.length = Vaarrm.product s
    · have e2 : decide (V.int ((Vaarrm.product s : Nat) : Int) = V.int ((l.length : Nat) : Int)) = true := decide_eq_true (by rw [h2])
      rw [e2]
      refine iteF ⟨_, rfl, _, rfl, Hf, e, m, s, us, l, rfl, hs.trans e1, he, hm, hl, hb, fun z => by rw [h2, z]; rfl, (q (decide_eq_true h2)).back (Grow.of hs e1)⟩
    · have e2 : decide (V.int ((Vaarrm.product s : Nat) : Int) = V.int ((l.length : Nat) : Int)) = false := decide_eq_false (fun z => h2 (by have := V.int.inj z; omega))
      rw [e2]
      exact iteT ⟨_, rfl, fun d hd => qf (decide_eq_false h2) d _ (e1.trans (same_new hd _)) upd_same⟩
end
end N
namespace N
open PySem L2
/-- the arrays begun, in the heap: innermost first here; the lists at A (extents) and B (rows) have the innermost last -/
structure BSt (C : Addr) (H H1 Hf : Hp) (A B : Addr) (es ms : List Addr) (ss : List (List Nat)) (rs : List (List U)) : Prop where
  same : Same H H1
  fh : Same Hf H1
  nd : (A :: B :: (es ++ ms)).Nodup
  fresh : ∀ b ∈ A :: B :: (es ++ ms), H b = none
  off : ∀ b ∈ A :: B :: (es ++ ms), Hf b = none
  a : H1 A = some (.lst (es.reverse.map V.ref))
  b : H1 B = some (.lst (ms.reverse.map V.ref))
  sh : Paired (fun e s => H1 e = some (.lst (Bs s)) ∧ ∀ n ∈ s, n ≤ 1000000000000000000) es ss
  rw : Paired (fun m l => ∃ us, H1 m = some (.lst us) ∧ Reps C Hf us l) ms rs
theorem nd_open {A B e m : Addr} {es ms : List Addr} (h : (A :: B :: (es ++ ms)).Nodup) (he : ∀ c ∈ A :: B :: (es ++ ms), c ≠ e) (hm : ∀ c ∈ A :: B :: (es ++ ms), c ≠ m) (hem : e ≠ m) : (A :: B :: (e :: es ++ m :: ms)).Nodup := by
  simp only [List.nodup_cons, List.nodup_append, List.mem_cons, List.mem_append, List.cons_append] at *
  grind
theorem all_open {A B e m : Addr} {es ms : List Addr} {P : Addr → Prop} (h : ∀ c ∈ A :: B :: (es ++ ms), P c) (he : P e) (hm : P m) : ∀ c ∈ A :: B :: (e :: es ++ m :: ms), P c := by
  intro c hc
  simp only [List.mem_cons, List.mem_append, List.cons_append] at *
  grind
theorem all_closed {A B e m : Addr} {es ms : List Addr} {P : Addr → Prop} (h : ∀ c ∈ A :: B :: (e :: es ++ m :: ms), P c) : ∀ c ∈ A :: B :: (es ++ ms), P c := by
  intro c hc
  simp only [List.mem_cons, List.mem_append, List.cons_append] at *
  grind
theorem nd_all {A B : Addr} {es ms : List Addr} (h : (A :: B :: (es ++ ms)).Nodup) : A ≠ B ∧ (∀ c ∈ es, c ≠ A ∧ c ≠ B) ∧ (∀ c ∈ ms, c ≠ A ∧ c ≠ B) ∧ (∀ c ∈ es, ∀ d ∈ ms, c ≠ d) := by
  simp only [List.nodup_cons, List.nodup_append, List.mem_append, List.mem_cons] at h
  grind
theorem nd_closed {A B e m : Addr} {es ms : List Addr} (h : (A :: B :: (e :: es ++ m :: ms)).Nodup) : (A :: B :: (es ++ ms)).Nodup ∧ (∀ c ∈ es, c ≠ e ∧ c ≠ m) ∧ (∀ c ∈ ms, c ≠ e ∧ c ≠ m) ∧ (∀ c ∈ A :: B :: (es ++ ms), c ≠ e ∧ c ≠ m) := by
  simp only [List.nodup_cons, List.nodup_append, List.mem_cons, List.mem_append, List.cons_append] at *
  grind
theorem nd_topE {A B e : Addr} {es ms : List Addr} (h : (A :: B :: (e :: es ++ ms)).Nodup) : A ≠ e ∧ B ≠ e ∧ (∀ c ∈ es, c ≠ e) ∧ (∀ c ∈ ms, c ≠ e) := by
  simp only [List.nodup_cons, List.nodup_append, List.mem_cons, List.mem_append, List.cons_append] at *
  grind
theorem nd_topM {A B m : Addr} {es ms : List Addr} (h : (A :: B :: (es ++ m :: ms)).Nodup) : A ≠ m ∧ B ≠ m ∧ (∀ c ∈ es, c ≠ m) ∧ (∀ c ∈ ms, c ≠ m) := by
  simp only [List.nodup_cons, List.nodup_append, List.mem_cons, List.mem_append, List.cons_append] at *
  grind
theorem Paired.mem_map {α β : Type} {R S : α → β → Prop} : ∀ {xs : List α} {ys : List β}, Paired R xs ys → (∀ a ∈ xs, ∀ b ∈ ys, R a b → S a b) → Paired S xs ys
  | _, _, .nil, _ => .nil
  | _, _, .cons h t, f => .cons (f _ List.mem_cons_self _ List.mem_cons_self h) (Paired.mem_map t fun a ha b hb => f a (List.mem_cons_of_mem _ ha) b (List.mem_cons_of_mem _ hb))
theorem Paired.mem_left {α β : Type} {R : α → β → Prop} : ∀ {xs : List α} {ys : List β}, Paired R xs ys → ∀ a ∈ xs, ∃ b, R a b
  | _, _, .nil, a, h => by simp at h
  | _, _, .cons r t, a, h => by
    rcases List.mem_cons.mp h with e | h
    · rw [e]; exact ⟨_, r⟩
    · exact Paired.mem_left t a h
section
variable {C : Addr} {H H1 H2 Hf : Hp} {A B : Addr} {es ms : List Addr} {ss : List (List Nat)} {rs : List (List U)}
/-- what stands in H1 on the stack -/
theorem BSt.there (x : BSt C H H1 Hf A B es ms ss rs) : ∀ c ∈ A :: B :: (es ++ ms), ∃ o, H1 c = some o := fun c hc => by
  rcases List.mem_cons.mp hc with e | hc
  · rw [e]; exact ⟨_, x.a⟩
  rcases List.mem_cons.mp hc with e | hc
  · rw [e]; exact ⟨_, x.b⟩
  rcases List.mem_append.mp hc with hc | hc
  · obtain ⟨s, h⟩ := Paired.mem_left x.sh c hc
    exact ⟨_, h.1⟩
  · obtain ⟨l, us, h⟩ := Paired.mem_left x.rw c hc
    exact ⟨_, h.1⟩
/-- more objects -/
theorem BSt.on (x : BSt C H H1 Hf A B es ms ss rs) (e : Same H1 H2) : BSt C H H2 Hf A B es ms ss rs :=
  ⟨x.same.trans e, x.fh.trans e, x.nd, x.fresh, x.off, e _ _ x.a, e _ _ x.b, Paired.map_R (fun _ _ h => ⟨e _ _ h.1, h.2⟩) x.sh, Paired.map_R (fun _ _ ⟨us, h, r⟩ => ⟨us, e _ _ h, r⟩) x.rw⟩
/-- shapes.append([]); rows.append([]) -/
theorem BSt.opened (x : BSt C H H1 Hf A B es ms ss rs) {e m : Addr} (he : H1 e = none) (hm : (upd (upd H1 e (.lst [])) A (.lst (es.reverse.map V.ref ++ [V.ref e]))) m = none) :
    BSt C H (upd (upd (upd (upd H1 e (.lst [])) A (.lst (es.reverse.map V.ref ++ [V.ref e]))) m (.lst [])) B (.lst (ms.reverse.map V.ref ++ [V.ref m]))) Hf A B (e :: es) (m :: ms) ([] :: ss) ([] :: rs) := by
  have outE : ∀ c ∈ A :: B :: (es ++ ms), c ≠ e := fun c hc z => by
    obtain ⟨o, h⟩ := x.there c hc
    rw [z, he] at h
    cases h
  have nmA : m ≠ A := fun z => by rw [z, upd_same] at hm; cases hm
  have nem : e ≠ m := fun z => by
    rw [← z, upd_ne (Ne.symm (outE A List.mem_cons_self)), upd_same] at hm
    cases hm
  have hm1 : H1 m = none := by
    rw [upd_ne nmA, upd_ne (Ne.symm nem)] at hm
    exact hm
  have outM : ∀ c ∈ A :: B :: (es ++ ms), c ≠ m := fun c hc z => by
    obtain ⟨o, h⟩ := x.there c hc
    rw [z, hm1] at h
    cases h
  obtain ⟨nAB, nE, nM, nEM⟩ := nd_all x.nd
  have keep : ∀ c o, c ≠ A → c ≠ B → H1 c = some o → (upd (upd (upd (upd H1 e (.lst [])) A (.lst (es.reverse.map V.ref ++ [V.ref e]))) m (.lst [])) B (.lst (ms.reverse.map V.ref ++ [V.ref m]))) c = some o := fun c o h1 h2 h => by
    rw [upd_ne h2, upd_ne (ne_of_none h hm1), upd_ne h1, upd_ne (ne_of_none h he)]
    exact h
  refine ⟨fun c o h => keep c o (ne_of_none h (x.fresh A List.mem_cons_self)) (ne_of_none h (x.fresh B (by simp))) (x.same c o h), fun c o h => keep c o (ne_of_none h (x.off A List.mem_cons_self)) (ne_of_none h (x.off B (by simp))) (x.fh c o h),
    nd_open x.nd outE outM nem, all_open x.fresh (x.same.free he) (x.same.free hm1), all_open x.off (x.fh.free he) (x.fh.free hm1), ?_, ?_, ?_, ?_⟩
  · rw [upd_ne nAB, upd_ne (Ne.symm nmA), upd_same, List.reverse_cons, List.map_append]
    rfl
  · rw [upd_same, List.reverse_cons, List.map_append]
    rfl
  · refine .cons ⟨?_, fun n h => absurd h (by simp)⟩ (Paired.mem_map x.sh fun c hc s _ h => ⟨keep c _ (nE c hc).1 (nE c hc).2 h.1, h.2⟩)
    rw [upd_ne (fun z => outE B (by simp) z.symm), upd_ne nem, upd_ne (fun z => outE A (by simp) z.symm), upd_same]
    rfl
  · refine .cons ⟨[], ?_, .nil⟩ (Paired.mem_map x.rw fun c hc l _ ⟨us, h, r⟩ => ⟨us, keep c _ (nM c hc).1 (nM c hc).2 h, r⟩)
    rw [upd_ne (fun z => outM B (by simp) z.symm), upd_same]
/-- shapes[-1].append(n) -/
theorem BSt.pushE {e : Addr} {s : List Nat} (x : BSt C H H1 Hf A B (e :: es) ms (s :: ss) rs) {n : Nat} (hn : n ≤ 1000000000000000000) : BSt C H (upd H1 e (.lst (Bs s ++ [V.int (n : Int)]))) Hf A B (e :: es) ms ((s ++ [n]) :: ss) rs := by
  obtain ⟨nA, nB, nE, nM⟩ := nd_topE x.nd
  have eB : Bs s ++ [V.int (n : Int)] = Bs (s ++ [n]) := by unfold Bs; rw [List.map_append]; rfl
  have memE : e ∈ A :: B :: (e :: es ++ ms) := by simp
  cases x.sh with
  | cons h t =>
    refine ⟨Same.mut x.same (x.fresh e memE), Same.mut x.fh (x.off e memE), x.nd, x.fresh, x.off, by rw [upd_ne nA]; exact x.a, by rw [upd_ne nB]; exact x.b, ?_, ?_⟩
    · refine .cons ⟨by rw [upd_same, eB], fun k hk => ?_⟩ (Paired.mem_map t fun c hc s _ h => ⟨by rw [upd_ne (nE c hc)]; exact h.1, h.2⟩)
      rcases List.mem_append.mp hk with hk | hk
      · exact h.2 k hk
      · rw [List.mem_singleton.mp hk]; exact hn
    · exact Paired.mem_map x.rw fun c hc l _ ⟨us, h, r⟩ => ⟨us, by rw [upd_ne (nM c hc)]; exact h, r⟩
/-- rows[-1].append(v) -/
theorem BSt.pushM {m : Addr} {l : List U} {us : List V} {u : V} {v : U} (x : BSt C H H1 Hf A B es (m :: ms) ss (l :: rs)) (hm : H1 m = some (.lst us)) (hu : Rep C Hf u v) : BSt C H (upd H1 m (.lst (us ++ [u]))) Hf A B es (m :: ms) ss ((l ++ [v]) :: rs) := by
  obtain ⟨nA, nB, nE, nM⟩ := nd_topM x.nd
  have memM : m ∈ A :: B :: (es ++ m :: ms) := by simp
  cases x.rw with
  | cons h t =>
    obtain ⟨us', h1, r1⟩ := h
    have e : us' = us := by
      have := h1.symm.trans hm
      injection this with this
      injection this
    subst e
    refine ⟨Same.mut x.same (x.fresh m memM), Same.mut x.fh (x.off m memM), x.nd, x.fresh, x.off, by rw [upd_ne nA]; exact x.a, by rw [upd_ne nB]; exact x.b, ?_, ?_⟩
    · exact Paired.mem_map x.sh fun c hc s _ h => ⟨by rw [upd_ne (nE c hc)]; exact h.1, h.2⟩
    · exact .cons ⟨_, upd_same, r1.append (.one hu)⟩ (Paired.mem_map t fun c hc l _ ⟨us, h, r⟩ => ⟨us, by rw [upd_ne (nM c hc)]; exact h, r⟩)
/-- members = rows.pop(); shapes.pop(): what is popped is taken into the part -/
theorem BSt.closed {e m : Addr} {s : List Nat} {l : List U} (x : BSt C H H1 Hf A B (e :: es) (m :: ms) (s :: ss) (l :: rs)) :
    ∃ us, H1 e = some (.lst (Bs s)) ∧ H1 m = some (.lst us) ∧ (∀ n ∈ s, n ≤ 1000000000000000000) ∧
      BSt C H (upd (upd H1 B (.lst (ms.reverse.map V.ref))) A (.lst (es.reverse.map V.ref))) (upd (upd Hf e (.lst (Bs s))) m (.lst us)) A B es ms ss rs ∧
      (upd (upd Hf e (.lst (Bs s))) m (.lst us)) e = some (.lst (Bs s)) ∧ (upd (upd Hf e (.lst (Bs s))) m (.lst us)) m = some (.lst us) ∧ Reps C (upd (upd Hf e (.lst (Bs s))) m (.lst us)) us l := by
  obtain ⟨nd', cE, cM, cAll⟩ := nd_closed x.nd
  obtain ⟨nAB, nE, nM, nEM⟩ := nd_all nd'
  cases x.sh with
  | cons hs ts =>
  cases x.rw with
  | cons hr tr =>
  obtain ⟨us, h1, r1⟩ := hr
  have fe : Hf e = none := x.off e (by simp)
  have fm : Hf m = none := x.off m (by simp)
  have nem : e ≠ m := by
    have := x.nd
    simp only [List.nodup_cons, List.nodup_append, List.mem_cons, List.mem_append, List.cons_append] at this
    grind
  have ff : Same Hf (upd (upd Hf e (.lst (Bs s))) m (.lst us)) := Same.mut (same_new fe _) fm
  have eA := cAll A List.mem_cons_self
  have eB := cAll B (by simp)
  have keep : ∀ c o, c ≠ A → c ≠ B → H1 c = some o → (upd (upd H1 B (.lst (ms.reverse.map V.ref))) A (.lst (es.reverse.map V.ref))) c = some o := fun c o h1 h2 h => by
    rw [upd_ne h1, upd_ne h2]
    exact h
  refine ⟨us, hs.1, h1, hs.2, ⟨fun c o h => keep c o (ne_of_none h (x.fresh A List.mem_cons_self)) (ne_of_none h (x.fresh B (by simp))) (x.same c o h), fun c o h => ?_, nd', all_closed x.fresh, fun c hc => ?_, upd_same, ?_, ?_, ?_⟩, ?_, upd_same, r1.mono ff⟩
  · by_cases zm : c = m
    · rw [zm, upd_same] at h
      rw [zm]
      exact keep m _ (Ne.symm eA.2) (Ne.symm eB.2) (h1.trans h)
    rw [upd_ne zm] at h
    by_cases ze : c = e
    · rw [ze, upd_same] at h
      rw [ze]
      exact keep e _ (Ne.symm eA.1) (Ne.symm eB.1) (hs.1.trans h)
    rw [upd_ne ze] at h
    exact keep c o (ne_of_none h (x.off A List.mem_cons_self)) (ne_of_none h (x.off B (by simp))) (x.fh c o h)
  · have := cAll c hc
    rw [upd_ne this.2, upd_ne this.1]
    exact all_closed x.off c hc
  · rw [upd_ne (Ne.symm nAB), upd_same]
  · exact Paired.mem_map ts fun c hc s _ h => ⟨keep c _ (nE c hc).1 (nE c hc).2 h.1, h.2⟩
  · exact Paired.mem_map tr fun c hc l _ ⟨us, h, r⟩ => ⟨us, keep c _ (nM c hc).1 (nM c hc).2 h, r.mono ff⟩
  · rw [upd_ne nem, upd_same]
/-- the part grows -/
theorem BSt.grow {Hf2 : Hp} (x : BSt C H H1 Hf A B es ms ss rs) (g : Grow H1 H2 Hf Hf2) : BSt C H H2 Hf2 A B es ms ss rs :=
  ⟨x.same.trans g.same, g.fh, x.nd, x.fresh, fun c hc => by
    obtain ⟨o, h⟩ := x.there c hc
    exact g.out h (x.off c hc), g.same _ _ x.a, g.same _ _ x.b, Paired.map_R (fun _ _ h => ⟨g.same _ _ h.1, h.2⟩) x.sh, Paired.map_R (fun _ _ ⟨us, h, r⟩ => ⟨us, g.same _ _ h, r.mono g.ff⟩) x.rw⟩
end
end N
namespace N
/-! ### Plain Lean: building a value from tokens -/
abbrev BS := List (List Nat) × List (List U) × Bool
/-- one token; true: refused (SHAPE), false: it can't stand there -/
def bstep : BS → KN → Except Bool BS
  | (ss, rs, b), (k, n) =>
    if k = 91 then .ok ([] :: ss, [] :: rs, true)
    else if k = 58 then .ok (ss, rs, false)
    else if k = 93 then match ss, rs with
      | s :: ss, l :: l' :: rs => if closeOk s l = true then .ok (ss, (l' ++ [Vaarrm.made s l]) :: rs, b) else .error true
      | _, _ => .error false
    else if b = true then match ss with
      | s :: ss => if 0 ≤ n then .ok ((s ++ [n.toNat]) :: ss, rs, b) else .error false
      | [] => .error false
    else match rs with
      | l :: rs => .ok (ss, (l ++ [.num n]) :: rs, b)
      | [] => .error false
def bfold : BS → List KN → Except Bool BS
  | st, [] => .ok st
  | st, k :: ks => match bstep st k with
    | .error e => .error e
    | .ok st' => bfold st' ks
theorem bfold_cons {st st' : BS} {k : KN} {ks : List KN} (h : bstep st k = .ok st') : bfold st (k :: ks) = bfold st' ks := by
  rw [bfold, h]
theorem bfold_err {st : BS} {k : KN} {ks : List KN} {e : Bool} (h : bstep st k = .error e) : bfold st (k :: ks) = .error e := by
  rw [bfold, h]
theorem bstep_open (ss : List (List Nat)) (rs : List (List U)) (b : Bool) (n : Int) : bstep (ss, rs, b) (91, n) = .ok ([] :: ss, [] :: rs, true) := rfl
theorem bstep_colon (ss : List (List Nat)) (rs : List (List U)) (b : Bool) (n : Int) : bstep (ss, rs, b) (58, n) = .ok (ss, rs, false) := rfl
theorem bstep_close {ss : List (List Nat)} {rs : List (List U)} {b : Bool} {n : Int} (h : bstep (ss, rs, b) (93, n) ≠ .error false) :
    ∃ s ss' l l' rs', ss = s :: ss' ∧ rs = l :: l' :: rs' ∧ bstep (ss, rs, b) (93, n) = if closeOk s l = true then .ok (ss', (l' ++ [Vaarrm.made s l]) :: rs', b) else .error true := by
  match ss, rs, h with
  | [], _, h => exact absurd rfl h
  | _ :: _, [], h => exact absurd rfl h
  | _ :: _, [_], h => exact absurd rfl h
  | s :: ss', l :: l' :: rs', _ => exact ⟨s, ss', l, l', rs', rfl, rfl, rfl⟩
theorem bstep_num {ss : List (List Nat)} {rs : List (List U)} {b : Bool} {k n : Int} (h1 : ¬ k = 91) (h2 : ¬ k = 58) (h3 : ¬ k = 93) : bstep (ss, rs, b) (k, n) = if b = true then match ss with
      | s :: ss => if 0 ≤ n then .ok ((s ++ [n.toNat]) :: ss, rs, b) else .error false
      | [] => .error false
    else match rs with
      | l :: rs => .ok (ss, (l ++ [.num n]) :: rs, b)
      | [] => .error false := by
  unfold bstep
  dsimp only
  rw [if_neg h1, if_neg h2, if_neg h3]
theorem bstep_ext {ss : List (List Nat)} {rs : List (List U)} {k n : Int} (h1 : ¬ k = 91) (h2 : ¬ k = 58) (h3 : ¬ k = 93) (h : bstep (ss, rs, true) (k, n) ≠ .error false) :
    ∃ s ss', ss = s :: ss' ∧ 0 ≤ n ∧ bstep (ss, rs, true) (k, n) = .ok ((s ++ [n.toNat]) :: ss', rs, true) := by
  rw [bstep_num h1 h2 h3] at h ⊢
  match ss, h with
  | [], h => exact absurd rfl h
  | s :: ss', h =>
    by_cases hn : 0 ≤ n
    · exact ⟨s, ss', rfl, hn, by simp [hn]⟩
    · exact absurd (by simp [hn]) h
theorem bstep_mem {ss : List (List Nat)} {rs : List (List U)} {k n : Int} (h1 : ¬ k = 91) (h2 : ¬ k = 58) (h3 : ¬ k = 93) (h : bstep (ss, rs, false) (k, n) ≠ .error false) :
    ∃ l rs', rs = l :: rs' ∧ bstep (ss, rs, false) (k, n) = .ok (ss, (l ++ [.num n]) :: rs', false) := by
  rw [bstep_num h1 h2 h3] at h ⊢
  match rs, h with
  | [], h => exact absurd rfl h
  | l :: rs', h => exact ⟨l, rs', rfl, rfl⟩
end N
namespace N
open PySem L2
def spBuild (K : PySem.W.Frag) (CT C CR : Addr) : Sp := fun vs H Q E => ∃ (tl : Addr) (us : List V) (ks : List Tk), vs = [.ref tl] ∧ SqL K H tl us ∧ TokVs CT H us ks ∧ ks.length ≤ 100000 ∧ (∀ k ∈ ks, -1000000000000000000 ≤ k.num ∧ k.num ≤ 1000000000000000000) ∧
  ((∃ v, bfold ([], [[]], false) (ks.map kn) = .ok ([], [[v]], false) ∧ ∀ (u : V) (H' : Hp), Same H H' → Rep C H' u v → Q u H') ∨ (bfold ([], [[]], false) (ks.map kn) = .error true ∧ Fails CR E H (-4)))
section
variable {P : Program} {w : World} {K : PySem.W.Frag} {mg : Str → Option Value} {base : Heap} {CTok CArr CRef fRef : Addr}
theorem sc_build : FnScope ["tokens", "shapes", "rows", "in_extents", "token", "members"] ["tokens"] (defScope sBuild) := ⟨rfl, rfl, rfl, by decide +kernel, rfl, by decide +kernel, by decide +kernel⟩
theorem ok_build (T : Top1 K mg "build" sBuild ["tokens"]) (c_OPENING : CI mg "OPENING" 91) (c_COLON : CI mg "COLON" 58) (c_CLOSING : CI mg "CLOSING" 93) (F_Token : ClF K CTok ["kind", "number", "stop"]) (D_close : Def P w K mg base (L2.CX P w) "close" 4 ["extents", "members"] (spClose CArr CRef)) : Def P w K mg base (L2.CX P w) "build" 5 ["tokens"] (spBuild K CTok CArr CRef) := by
  refine T.okX sc_build (fun vs H Q E h => ?_) (fun f cdv A outer s H vs Q E hr h => ?_)
  · obtain ⟨tl, us, ks, rfl, _⟩ := h
    rfl
  obtain ⟨tl, us, ks, rfl, hS, hT, hz, hb, q⟩ := h
  have hlen : us.length = ks.length := Paired.length hT
  have gK := F_Token.no "kind" (by simp)
  have gN := F_Token.no "number" (by simp)
  have ne : ∀ {i j : Int}, ¬ i = j → ¬ V.int i = V.int j := fun h z => h (V.int.inj z)
  -- the fold never meets a token that can't stand there
  have nofalse : bfold ([], [[]], false) (ks.map kn) ≠ .error false := fun z => by
    rcases q with ⟨v, e, _⟩ | ⟨e, _⟩ <;> (rw [z] at e; cases e)
  refine ⟨_, (pss_cons (ps_set (i := 1) sc_build.nd rfl (Or.inl rfl) (pe_lst pa_nil)) (pss_cons (ps_set (i := 2) sc_build.nd rfl (Or.inl rfl) (pe_lst (pa_cons (pe_lst pa_nil) pa_nil))) (pss_cons (ps_set (i := 3) sc_build.nd rfl (Or.inl rfl) pe_bl) (pss_cons (ps_for (passes_of rfl) rfl (pi_list (pv 0)) (pg_name (i := 4) sc_build.nd rfl (Or.inl rfl)) (pss_one (ps_if (pt_cmpR op_eq (pe_fld (pv 4) rfl) (pe_ci c_OPENING) (nomark _)) (pss_cons (ps_expr (pe_bm PySem.F.plainAttrs_list PySem.F.slot_list_append PySem.F.type_list_append mt_append (pv 1) (pa_cons (pe_lst pa_nil) pa_nil))) (pss_cons (ps_expr (pe_bm PySem.F.plainAttrs_list PySem.F.slot_list_append PySem.F.type_list_append mt_append (pv 2) (pa_cons (pe_lst pa_nil) pa_nil))) (pss_one (ps_set (i := 3) sc_build.nd rfl (Or.inl rfl) pe_bl)))) (pss_one (ps_if (pt_cmpR op_eq (pe_fld (pv 4) rfl) (pe_ci c_COLON) (nomark _)) (pss_one (ps_set (i := 3) sc_build.nd rfl (Or.inl rfl) pe_bl)) (pss_one (ps_if (pt_cmpR op_eq (pe_fld (pv 4) rfl) (pe_ci c_CLOSING) (nomark _)) (pss_cons (ps_set (i := 5) sc_build.nd rfl (Or.inl rfl) (pe_bm0 PySem.F.plainAttrs_list PySem.F.slot_list_pop PySem.F.type_list_pop mt_pop (pv 2))) (pss_one (ps_expr (pe_bm PySem.F.plainAttrs_list PySem.F.slot_list_append PySem.F.type_list_append mt_append (pe_ix ix_list (pv 2) (pe_un un_neg pe_int) (fun _ _ => rfl)) (pa_cons (pe_fn D_close (hr.mono (by decide)) (passes_call (takes_of rfl rfl rfl rfl) (fun _ _ _ _ h => h)) (pa_cons (pe_bm0 PySem.F.plainAttrs_list PySem.F.slot_list_pop PySem.F.type_list_pop mt_pop (pv 1)) (pa_cons (pv 5) pa_nil))) pa_nil))))) (pss_one (ps_if (pt_val (pv 3)) (pss_one (ps_expr (pe_bm PySem.F.plainAttrs_list PySem.F.slot_list_append PySem.F.type_list_append mt_append (pe_ix ix_list (pv 1) (pe_un un_neg pe_int) (fun _ _ => rfl)) (pa_cons (pe_fld (pv 4) rfl) pa_nil)))) (pss_one (ps_expr (pe_bm PySem.F.plainAttrs_list PySem.F.slot_list_append PySem.F.type_list_append mt_append (pe_ix ix_list (pv 2) (pe_un un_neg pe_int) (fun _ _ => rfl)) (pa_cons (pe_fld (pv 4) rfl) pa_nil))))))))))))) (pss_one (ps_ret (pe_ix ix_list (pe_ix ix_list (pv 2) pe_int (fun _ _ => rfl)) pe_int (fun _ _ => rfl)))))))), ?_⟩
  refine ⟨Nat.zero_le _, fun A hA => ?_⟩
  refine ⟨Nat.zero_le _, fun m0 hm0 => ?_⟩
  refine ⟨by show 1 ≤ sizeLine; decide, fun B hB => ?_⟩
  have nAm : A ≠ m0 := fun z => by rw [← z, upd_same] at hm0; cases hm0
  have nBm : m0 ≠ B := fun z => by rw [← z, upd_same] at hB; cases hB
  have nAB : A ≠ B := fun z => by rw [← z, upd_ne nAm, upd_same] at hB; cases hB
  have sA := same_new hA (.lst [])
  have sm := sA.trans (same_new hm0 (.lst []))
  have sB := sm.trans (same_new hB (.lst [V.ref m0]))
  have x0 : BSt CArr H (upd (upd (upd H A (.lst [])) m0 (.lst [])) B (.lst [V.ref m0])) (fun _ => none) A B [] [m0] [] [[]] := by
    refine ⟨sB, fun _ _ h => (by cases h), ?_, ?_, fun _ _ => rfl, ?_, upd_same, .nil, .cons ⟨[], ?_, .nil⟩ .nil⟩
    · simp [nAB, nAm, Ne.symm nBm]
    · intro b hb
      simp only [List.nil_append, List.mem_cons, List.not_mem_nil, or_false] at hb
      rcases hb with rfl | rfl | rfl
      · exact hA
      · exact sm.free hB
      · exact sA.free hm0
    · rw [upd_ne nAB, upd_ne nAm, upd_same]
      rfl
    · rw [upd_ne nBm, upd_same]
  generalize upd (upd (upd H A (.lst [])) m0 (.lst [])) B (.lst [V.ref m0]) = H0 at *
  refine ⟨_, rfl, tl, rfl, ⟨_, sB.seq hS⟩, for_list (K := K) (a := tl) (xs := us) (fun i σ H1 => ∃ (Hf : Hp) (es ms : List Addr) (ss : List (List Nat)) (rs : List (List U)) (b : Bool) (a4 a5 : Option V), σ = [some (.ref tl), some (.ref A), some (.ref B), some (.bl b), a4, a5] ∧ BSt CArr H H1 Hf A B es ms ss rs ∧
      bfold (ss, rs, b) ((ks.drop i).map kn) = bfold ([], [[]], false) (ks.map kn) ∧ es.length ≤ i ∧ ms.length ≤ i + 1 ∧ (∀ s ∈ ss, s.length ≤ i) ∧ (∀ l ∈ rs, l.length ≤ i))
    ⟨_, [], [m0], [], [[]], false, none, none, rfl, x0, rfl, Nat.le_refl _, Nat.le_refl _, fun s h => absurd h (by simp), fun l h => by simp at h; rw [h]; exact Nat.le_refl _⟩ (fun i σ H1 _ h => ?_) ?_ ?_⟩
  · obtain ⟨_, _, _, _, _, _, _, _, _, x, _⟩ := h
    exact x.same.seq hS
  · rintro i y σ H1 hi ⟨Hf, es, ms, ss, rs, b, a4, a5, rfl, x, hf, ce, cm, cs, cl⟩
    obtain ⟨k, hk, z, dx, rfl, hz'⟩ := Paired.get2 hT hi
    have hzt := x.same _ _ hz'
    have hdr : ks.drop i = k :: ks.drop (i + 1) := by
      obtain ⟨h1, h2⟩ := List.getElem?_eq_some_iff.mp hk
      rw [List.drop_eq_getElem_cons h1, h2]
    have hik : i < ks.length := (List.getElem?_eq_some_iff.mp hk).1
    rw [hdr, List.map_cons] at hf
    have hkb := hb k (List.mem_of_getElem? hk)
    have big : ∀ n : Nat, n ≤ 200000 → n < sizeLine := fun n h => Nat.lt_of_le_of_lt h (by decide)
    have bad : bstep (ss, rs, b) (kn k) ≠ .error false := fun z => by
      rw [bfold_err z] at hf
      exact nofalse hf.symm
    refine ⟨_, rfl, z, CTok, dx, _, _, rfl, hzt, F_Token.cl, gK, tokF_kind _ _ _, rfl, _, rfl, ?_⟩
    by_cases a1 : k.kind = 91
    · -- an opening sign
      have hst : bstep (ss, rs, b) (kn k) = .ok ([] :: ss, [] :: rs, true) := by
        unfold kn
        rw [a1]
        rfl
      rw [bfold_cons hst] at hf
      refine itT (by rw [a1]) ⟨_, rfl, .inl ⟨rfl, _, SqL.of x.a⟩, Nat.zero_le _, fun e he => ?_⟩
      have nAe : A ≠ e := ne_of_none x.a he
      have nBe : B ≠ e := ne_of_none x.b he
      refine ⟨A, _, _, rfl, rfl, by rw [upd_ne nAe]; exact x.a, big _ (by rw [List.length_map, List.length_reverse]; omega), ?_⟩
      have hB1 : (upd (upd H1 e (.lst [])) A (.lst (es.reverse.map V.ref ++ [V.ref e]))) B = some (.lst (ms.reverse.map V.ref)) := by
        rw [upd_ne (Ne.symm (nd_all x.nd).1), upd_ne nBe]
        exact x.b
      refine ⟨_, rfl, .inl ⟨rfl, _, SqL.of hB1⟩, Nat.zero_le _, fun m hm => ?_⟩
      have nBm2 : B ≠ m := ne_of_none hB1 hm
      refine ⟨B, _, _, rfl, rfl, by rw [upd_ne nBm2]; exact hB1, big _ (by rw [List.length_map, List.length_reverse]; omega), ?_⟩
      refine ⟨Hf, e :: es, m :: ms, [] :: ss, [] :: rs, true, some (.ref z), a5, rfl, x.opened he hm, hf, by rw [List.length_cons]; omega, by rw [List.length_cons]; omega, fun s hs => ?_, fun l hl => ?_⟩
      · rcases List.mem_cons.mp hs with rfl | hs
        · exact Nat.zero_le _
        · exact Nat.le_succ_of_le (cs s hs)
      · rcases List.mem_cons.mp hl with rfl | hl
        · exact Nat.zero_le _
        · exact Nat.le_succ_of_le (cl l hl)
    refine itF (ne a1) ⟨_, rfl, z, CTok, dx, _, _, rfl, hzt, F_Token.cl, gK, tokF_kind _ _ _, rfl, _, rfl, ?_⟩
    by_cases a2 : k.kind = 58
    · have hst : bstep (ss, rs, b) (kn k) = .ok (ss, rs, false) := by
        unfold kn
        rw [a2]
        rfl
      rw [bfold_cons hst] at hf
      exact itT (by rw [a2]) ⟨Hf, es, ms, ss, rs, false, some (.ref z), a5, rfl, x, hf, by omega, by omega, fun s hs => Nat.le_succ_of_le (cs s hs), fun l hl => Nat.le_succ_of_le (cl l hl)⟩
    refine itF (ne a2) ⟨_, rfl, z, CTok, dx, _, _, rfl, hzt, F_Token.cl, gK, tokF_kind _ _ _, rfl, _, rfl, ?_⟩
    by_cases a3 : k.kind = 93
    · -- a closing sign
      have hk93 : kn k = (93, k.num) := by unfold kn; rw [a3]
      rw [hk93] at bad hf
      obtain ⟨s, ss', l, l', rs', rfl, rfl, hst⟩ := bstep_close bad
      · skip
        obtain ⟨m, m', ms', um', rfl, hm'⟩ : ∃ m m' ms' um', ms = m :: m' :: ms' ∧ H1 m' = some (.lst um') := by
          cases x.rw with
          | cons _ t =>
            cases t with
            | cons h _ =>
              obtain ⟨us, h, _⟩ := h
              exact ⟨_, _, _, us, rfl, h⟩
        obtain ⟨e, es', rfl⟩ : ∃ e es', es = e :: es' := by
          cases x.sh with
          | cons _ _ => exact ⟨_, _, rfl⟩
        have hml : um'.length = l'.length := by
          cases x.rw with
          | cons _ t =>
            cases t with
            | cons h _ =>
              obtain ⟨us, h, r⟩ := h
              have := hm'.symm.trans h
              injection this with this
              injection this with this
              rw [this]
              exact r.length
        obtain ⟨um, he, hm, hbs, xc, fe, fm, fr⟩ := x.closed
        have xb : H1 B = some (.lst ((m' :: ms').reverse.map V.ref ++ [V.ref m])) := by rw [x.b, List.reverse_cons, List.map_append]; rfl
        have xa : H1 A = some (.lst (es'.reverse.map V.ref ++ [V.ref e])) := by rw [x.a, List.reverse_cons, List.map_append]; rfl
        obtain ⟨nab, nE, nM, nEM⟩ := nd_all x.nd
        have nm'A : m' ≠ A := (nM m' (by simp)).1
        have nm'B : m' ≠ B := (nM m' (by simp)).2
        refine itT (by rw [a3]) ⟨_, rfl, .inl ⟨rfl, _, SqL.of xb⟩, B, _, V.ref m, rfl, rfl, xb, by simp, ?_⟩
        rw [List.dropLast_concat]
        refine ⟨_, rfl, _, rfl, B, _, -1, V.ref m', rfl, rfl, SqL.of upd_same, by rw [List.reverse_cons, List.map_append]; exact atI_last _ _, .inl ⟨rfl, um', SqL.of (by rw [upd_ne nm'B]; exact hm')⟩, ?_⟩
        have xa2 : (upd H1 B (.lst ((m' :: ms').reverse.map V.ref))) A = some (.lst (es'.reverse.map V.ref ++ [V.ref e])) := by rw [upd_ne nab]; exact xa
        refine ⟨_, rfl, .inl ⟨rfl, _, SqL.of xa2⟩, A, _, V.ref e, rfl, rfl, xa2, by simp, ?_⟩
        rw [List.dropLast_concat]
        refine ⟨_, rfl, _, e, m, s, um, l, rfl, xc.fh, fe, fm, fr, hbs, fun hyes r H4 Hf4 g hr4 => ?_, fun hno => ?_⟩
        · rw [if_pos hyes] at hst
          rw [bfold_cons hst] at hf
          have hm4 : H4 m' = some (.lst um') := g.same _ _ (by rw [upd_ne nm'A, upd_ne nm'B]; exact hm')
          have cl' := cl l' (by simp)
          refine ⟨m', um', _, rfl, rfl, hm4, big _ (by omega), ?_⟩
          have xn := (xc.grow g).pushM hm4 hr4
          refine ⟨Hf4, es', m' :: ms', ss', (l' ++ [Vaarrm.made s l]) :: rs', b, some (.ref z), some (.ref m), rfl, xn, hf, ?_, ?_, fun s2 hs => Nat.le_succ_of_le (cs s2 (List.mem_cons_of_mem _ hs)), fun l2 hl => ?_⟩
          · rw [List.length_cons] at ce
            omega
          · rw [List.length_cons, List.length_cons] at cm
            rw [List.length_cons]
            omega
          · rcases List.mem_cons.mp hl with rfl | hl
            · rw [List.length_append, List.length_singleton]
              omega
            · exact Nat.le_succ_of_le (cl l2 (by simp [hl]))
        · rw [if_neg (by rw [hno]; exact Bool.false_ne_true)] at hst
          rw [bfold_err hst] at hf
          rcases q with ⟨v, e', _⟩ | ⟨_, q⟩
          · rw [e'] at hf; cases hf
          · exact q.back xc.same
    refine itF (ne a3) ⟨_, rfl, _, rfl, ?_⟩
    cases b with
    | true =>
      obtain ⟨s, ss', rfl, hn, hst⟩ := bstep_ext a1 a2 a3 bad
      · skip
        · skip
          rw [bfold_cons (show bstep _ (kn k) = _ from hst)] at hf
          obtain ⟨e, es', rfl, he⟩ : ∃ e es', es = e :: es' ∧ H1 e = some (.lst (Bs s)) := by
            cases x.sh with
            | cons h _ => exact ⟨_, _, rfl, h.1⟩
          have xa : H1 A = some (.lst (es'.reverse.map V.ref ++ [V.ref e])) := by rw [x.a, List.reverse_cons, List.map_append]; rfl
          have cs' := cs s (by simp)
          have xn := x.pushE (n := k.num.toNat) (by omega)
          have en : V.int ((k.num.toNat : Nat) : Int) = V.int k.num := by rw [Int.toNat_of_nonneg hn]
          rw [en] at xn
          refine iteT ⟨_, rfl, _, rfl, A, _, -1, V.ref e, rfl, rfl, SqL.of xa, atI_last _ _, .inl ⟨rfl, _, SqL.of he⟩, ?_⟩
          refine ⟨_, rfl, z, CTok, dx, _, _, rfl, hzt, F_Token.cl, gN, tokF_number _ _ _, e, _, _, rfl, rfl, he, big _ (by rw [Bs_len]; omega), ?_⟩
          refine ⟨Hf, e :: es', ms, (s ++ [k.num.toNat]) :: ss', rs, true, some (.ref z), a5, rfl, xn, hf, by omega, by omega, fun s2 hs => ?_, fun l2 hl => Nat.le_succ_of_le (cl l2 hl)⟩
          rcases List.mem_cons.mp hs with rfl | hs
          · rw [List.length_append, List.length_singleton]
            omega
          · exact Nat.le_succ_of_le (cs s2 (by simp [hs]))
    | false =>
      obtain ⟨l, rs', rfl, hst⟩ := bstep_mem a1 a2 a3 bad
      · skip
        rw [bfold_cons (show bstep _ (kn k) = _ from hst)] at hf
        obtain ⟨m, ms', um, rfl, hm, hml⟩ : ∃ m ms' um, ms = m :: ms' ∧ H1 m = some (.lst um) ∧ um.length = l.length := by
          cases x.rw with
          | cons h _ =>
            obtain ⟨us, h, r⟩ := h
            exact ⟨_, _, us, rfl, h, r.length⟩
        have xb : H1 B = some (.lst (ms'.reverse.map V.ref ++ [V.ref m])) := by rw [x.b, List.reverse_cons, List.map_append]; rfl
        have cl' := cl l (by simp)
        have xn := x.pushM hm (Rep.num k.num hkb)
        refine iteF ⟨_, rfl, _, rfl, B, _, -1, V.ref m, rfl, rfl, SqL.of xb, atI_last _ _, .inl ⟨rfl, _, SqL.of hm⟩, ?_⟩
        refine ⟨_, rfl, z, CTok, dx, _, _, rfl, hzt, F_Token.cl, gN, tokF_number _ _ _, m, _, _, rfl, rfl, hm, big _ (by omega), ?_⟩
        refine ⟨Hf, es, m :: ms', ss, (l ++ [.num k.num]) :: rs', false, some (.ref z), a5, rfl, xn, hf, by omega, by omega, fun s2 hs => Nat.le_succ_of_le (cs s2 hs), fun l2 hl => ?_⟩
        rcases List.mem_cons.mp hl with rfl | hl
        · rw [List.length_append, List.length_singleton]
          omega
        · exact Nat.le_succ_of_le (cl l2 (by simp [hl]))
  · rintro σ H1 ⟨Hf, es, ms, ss, rs, b, a4, a5, rfl, x, hf, ce, cm, cs, cl⟩
    rw [hlen, List.drop_length] at hf
    have hf : Except.ok (ss, rs, b) = bfold ([], [[]], false) (ks.map kn) := hf
    rcases q with ⟨v, e, q⟩ | ⟨e, _⟩
    · rw [e] at hf
      injection hf with hf
      obtain ⟨rfl, h2⟩ := Prod.mk.inj hf
      obtain ⟨rfl, rfl⟩ := Prod.mk.inj h2
      cases x.rw with
      | cons h t =>
        cases t
        obtain ⟨um, hm, r⟩ := h
        cases r with
        | cons ru t =>
          cases t
          refine ⟨_, rfl, B, _, 0, V.ref _, rfl, rfl, SqL.of x.b, rfl, _, _, 0, _, rfl, rfl, SqL.of hm, rfl, q _ _ x.same (ru.mono x.fh)⟩
    · rw [e] at hf
      cases hf
end
end N
namespace N
open Vaarrm (Told Token tokensIn tokens extents values readTold here small valueTold shapedTold)
/-! ### Plain Lean: what a text in form tells -/
mutual
def tval : Told → U
  | .num n => .num (heldZ n)
  | .arr s l => Vaarrm.made (s.map fun n => (heldZ n).toNat) (tvalL l)
def tvalL : List Told → List U
  | [] => []
  | x :: l => tval x :: tvalL l
end
mutual
def tshap : Told → Bool
  | .num _ => true
  | .arr s l => tshapL l && closeOk (s.map fun n => (heldZ n).toNat) (tvalL l)
def tshapL : List Told → Bool
  | [] => true
  | x :: l => tshap x && tshapL l
end
/- no extent below 0 -/
mutual
def tnn : Told → Prop
  | .num _ => True
  | .arr s l => (∀ n ∈ s, 0 ≤ n) ∧ tnnL l
def tnnL : List Told → Prop
  | [] => True
  | x :: l => tnn x ∧ tnnL l
end
mutual
def tsmall : Told → Bool
  | .num n => inG n
  | .arr s l => s.all (fun n => decide (n ≤ 1000000000000000000)) && tsmallL l
def tsmallL : List Told → Bool
  | [] => true
  | x :: l => tsmall x && tsmallL l
end
mutual
def tdT : Told → Nat
  | .num _ => 0
  | .arr _ l => 1 + tdTL l
def tdTL : List Told → Nat
  | [] => 0
  | x :: l => max (tdT x) (tdTL l)
end
theorem bfold_nums : ∀ (s : List Int) (u : List Nat) (ss : List (List Nat)) (rs : List (List U)) (rest : List KN), (∀ n ∈ s, 0 ≤ n) → bfold (u :: ss, rs, true) (nums s ++ rest) = bfold ((u ++ s.map fun n => (heldZ n).toNat) :: ss, rs, true) rest
  | [], u, ss, rs, rest, _ => by
    show bfold _ rest = bfold ((u ++ []) :: ss, rs, true) rest
    rw [List.append_nil]
  | n :: s, u, ss, rs, rest, h => by
    show bfold (u :: ss, rs, true) ((1, heldZ n) :: (nums s ++ rest)) = _
    have e : bstep (u :: ss, rs, true) (1, heldZ n) = .ok ((u ++ [(heldZ n).toNat]) :: ss, rs, true) := by
      rw [bstep_num (by decide) (by decide) (by decide)]
      simp [(heldZ_nonneg n).mpr (h n List.mem_cons_self)]
    rw [bfold_cons e, bfold_nums s _ ss rs rest (fun k hk => h k (List.mem_cons_of_mem _ hk)), List.append_assoc]
    rfl
mutual
theorem bfold_lin : ∀ (x : Told) (ss : List (List Nat)) (l : List U) (rs : List (List U)) (rest : List KN), tnn x → bfold (ss, l :: rs, false) (lin x ++ rest) = if tshap x = true then bfold (ss, (l ++ [tval x]) :: rs, false) rest else .error true
  | .num n, ss, l, rs, rest, _ => by
    show bfold (ss, l :: rs, false) ((1, heldZ n) :: rest) = _
    have e : bstep (ss, l :: rs, false) (1, heldZ n) = .ok (ss, (l ++ [.num (heldZ n)]) :: rs, false) := by
      rw [bstep_num (by decide) (by decide) (by decide)]
      rfl
    rw [bfold_cons e]
    rfl
  | .arr s m, ss, l, rs, rest, h => by
    have h : (∀ n ∈ s, 0 ≤ n) ∧ tnnL m := h
    rw [lin_arr]
    show bfold (ss, l :: rs, false) ((91, 0) :: ((nums s ++ (58, 0) :: (linL m ++ [(93, 0)])) ++ rest)) = _
    rw [bfold_cons (bstep_open ss (l :: rs) false 0), List.append_assoc, bfold_nums s [] ss _ _ h.1, List.nil_append]
    show bfold _ ((58, 0) :: ((linL m ++ [(93, 0)]) ++ rest)) = _
    rw [bfold_cons (bstep_colon _ _ true 0), List.append_assoc, bfold_linL m _ [] (l :: rs) _ h.2, List.nil_append]
    show (if tshapL m = true then bfold _ ((93, 0) :: rest) else .error true) = if (tshapL m && closeOk (s.map fun n => (heldZ n).toNat) (tvalL m)) = true then bfold (ss, (l ++ [Vaarrm.made (s.map fun n => (heldZ n).toNat) (tvalL m)]) :: rs, false) rest else .error true
    cases tshapL m with
    | false => rfl
    | true =>
      have e : bstep ((s.map fun n => (heldZ n).toNat) :: ss, tvalL m :: l :: rs, false) (93, 0) = if closeOk (s.map fun n => (heldZ n).toNat) (tvalL m) = true then .ok (ss, (l ++ [Vaarrm.made (s.map fun n => (heldZ n).toNat) (tvalL m)]) :: rs, false) else .error true := rfl
      rw [if_pos rfl, Bool.true_and]
      cases hc : closeOk (s.map fun n => (heldZ n).toNat) (tvalL m) with
      | false =>
        rw [hc, if_neg Bool.false_ne_true] at e
        rw [bfold_err e]
        rfl
      | true =>
        rw [hc, if_pos rfl] at e
        rw [bfold_cons e]
        rfl
theorem bfold_linL : ∀ (m : List Told) (ss : List (List Nat)) (l : List U) (rs : List (List U)) (rest : List KN), tnnL m → bfold (ss, l :: rs, false) (linL m ++ rest) = if tshapL m = true then bfold (ss, (l ++ tvalL m) :: rs, false) rest else .error true
  | [], ss, l, rs, rest, _ => by
    show bfold (ss, l :: rs, false) rest = bfold (ss, (l ++ []) :: rs, false) rest
    rw [List.append_nil]
  | x :: m, ss, l, rs, rest, h => by
    have h : tnn x ∧ tnnL m := h
    rw [linL_cons, List.append_assoc, bfold_lin x ss l rs _ h.1]
    show _ = if (tshap x && tshapL m) = true then bfold (ss, (l ++ (tval x :: tvalL m)) :: rs, false) rest else .error true
    cases tshap x with
    | false => rfl
    | true =>
      rw [if_pos rfl, bfold_linL m ss _ rs rest h.2, Bool.true_and, List.append_assoc]
      rfl
end
/-! no extent below 0 in a text in form -/
theorem extents_nn : ∀ (ts : Vaarrm.Toks) (x : List Int × Vaarrm.Toks), extents ts = .ok x → ∀ n ∈ x.1, 0 ≤ n
  | [], x, h => by cases h
  | (p, .none) :: r, x, h => by cases h
  | (p, .sign c) :: r, x, h => by
    unfold extents at h
    split at h
    · injection h with h
      rw [← h]
      intro n hn
      simp at hn
    · cases h
  | (p, .num n) :: r, x, h => by
    unfold extents at h
    split at h
    · cases h
    · rename_i hn
      cases e : extents r with
      | error q =>
        rw [e] at h
        cases h
      | ok y =>
        rw [e] at h
        injection h with h
        rw [← h]
        intro k hk
        rcases List.mem_cons.mp hk with rfl | hk
        · omega
        · exact extents_nn r y e k hk
theorem tnnL_append : ∀ (l m : List Told), tnnL l → tnnL m → tnnL (l ++ m)
  | [], m, _, h => h
  | x :: l, m, h, h2 => by
    have h : tnn x ∧ tnnL l := h
    exact ⟨h.1, tnnL_append l m h.2 h2⟩
theorem tnnL_reverse : ∀ (l : List Told), tnnL l → tnnL l.reverse
  | [], _ => trivial
  | x :: l, h => by
    have h : tnn x ∧ tnnL l := h
    rw [List.reverse_cons]
    exact tnnL_append _ _ (tnnL_reverse l h.2) ⟨h.1, trivial⟩
theorem values_nn : ∀ (k : Nat) (o : List (List Int × List Told)) (ts : Vaarrm.Toks) (x : Told × Vaarrm.Toks), (∀ p ∈ o, (∀ n ∈ p.1, 0 ≤ n) ∧ tnnL p.2) → values k o ts = .ok x → tnn x.1
  | 0, o, ts, x, _, h => by cases h
  | k + 1, o, [], x, _, h => by cases h
  | k + 1, o, (p, .none) :: r, x, _, h => by cases h
  | k + 1, [], (p, .num n) :: r, x, _, h => by
    injection h with h
    rw [← h]
    trivial
  | k + 1, (s, l) :: o, (p, .num n) :: r, x, ho, h => by
    unfold values at h
    dsimp only at h
    split at h
    · cases h
    · refine values_nn k _ r x (fun q hq => ?_) h
      rcases List.mem_cons.mp hq with rfl | hq
      · have := ho (s, l) List.mem_cons_self
        exact ⟨this.1, trivial, this.2⟩
      · exact ho q (List.mem_cons_of_mem _ hq)
  | k + 1, o, (p, .sign c) :: r, x, ho, h => by
    unfold values at h
    dsimp only at h
    split at h
    · cases e : extents r with
      | error q =>
        rw [e] at h
        cases h
      | ok y =>
        rw [e] at h
        refine values_nn k _ y.2 x (fun q hq => ?_) h
        rcases List.mem_cons.mp hq with rfl | hq
        · exact ⟨extents_nn r y e, trivial⟩
        · exact ho q hq
    · split at h
      · match o, ho, h with
        | [], _, h => cases h
        | [(s, l)], ho, h =>
          injection h with h
          rw [← h]
          have := ho (s, l) List.mem_cons_self
          exact ⟨this.1, tnnL_reverse l this.2⟩
        | (s, l) :: (t, m) :: o, ho, h =>
          refine values_nn k _ r x (fun q hq => ?_) h
          have h1 := ho (s, l) List.mem_cons_self
          have h2 := ho (t, m) (List.mem_cons_of_mem _ List.mem_cons_self)
          rcases List.mem_cons.mp hq with rfl | hq
          · exact ⟨h2.1, ⟨h1.1, tnnL_reverse l h1.2⟩, h2.2⟩
          · exact ho q (List.mem_cons_of_mem _ (List.mem_cons_of_mem _ hq))
      · cases h
theorem readTold_nn (t : List Nat) (x : Told) (h : readTold t = .ok x) : tnn x := by
  unfold readTold at h
  cases e : values (t.length + 2) [] (tokens t) with
  | error q =>
    rw [e] at h
    cases h
  | ok y =>
    have hy := values_nn _ _ _ _ (fun p hp => absurd hp (by simp)) e
    rw [e] at h
    dsimp only at h
    split at h
    · split at h
      · injection h with h
        rw [← h]
        exact hy
      · cases h
    · cases h
/-! the specification's checks, as far down as is told -/
mutual
theorem small_is : ∀ (x : Told) (k : Nat), tdT x < k → small k x = tsmall x
  | x, 0, h => absurd h (by omega)
  | .num n, k + 1, _ => by
    show (decide (-Vaarrm.G ≤ n) && decide (n ≤ Vaarrm.G)) = inG n
    unfold inG Vaarrm.G
    by_cases a : (-1000000000000000000 : Int) ≤ n
    · rw [decide_eq_true a, Bool.true_and]
      exact decide_eq_decide.mpr ⟨fun z => ⟨a, z⟩, fun z => z.2⟩
    · rw [decide_eq_false a, Bool.false_and]
      exact (decide_eq_false fun z => a z.1).symm
  | .arr s l, k + 1, h => by
    have h' : 1 + tdTL l < k + 1 := h
    show (s.all (fun n => decide (n ≤ Vaarrm.G)) && l.all (small k)) = (s.all (fun n => decide (n ≤ 1000000000000000000)) && tsmallL l)
    rw [small_isL l k (by omega)]
    rfl
theorem small_isL : ∀ (l : List Told) (k : Nat), tdTL l < k → l.all (small k) = tsmallL l
  | [], k, _ => rfl
  | x :: l, k, h => by
    have h' : max (tdT x) (tdTL l) < k := h
    rw [List.all_cons, small_is x k (by omega), small_isL l k (by omega)]
    rfl
end
theorem heldZ_small {n : Int} (h : -1000000000000000000 ≤ n ∧ n ≤ 1000000000000000000) : heldZ n = n := by
  unfold heldZ
  rw [if_neg (by omega), if_neg (by omega)]
theorem inG_held (n : Int) : inG (heldZ n) = inG n := by
  unfold inG heldZ
  exact decide_eq_decide.mpr (by split <;> (try split) <;> omega)
theorem ext_held {s : List Int} (hn : ∀ n ∈ s, 0 ≤ n) (h : s.all (fun n => decide (n ≤ 1000000000000000000)) = true) : (s.map fun n => (heldZ n).toNat) = s.map fun n => n.toNat :=
  List.map_congr_left fun n hm => by
    have h1 := of_decide_eq_true (List.all_eq_true.mp h n hm)
    have h2 := hn n hm
    rw [heldZ_small (by omega)]
theorem tvalL_len : ∀ l : List Told, (tvalL l).length = l.length
  | [] => rfl
  | x :: l => by
    show (tvalL l).length + 1 = l.length + 1
    rw [tvalL_len l]
mutual
theorem value_is : ∀ (x : Told) (k : Nat), tdT x < k → tnn x → tsmall x = true → valueTold k x = tval x
  | x, 0, h, _, _ => absurd h (by omega)
  | .num n, k + 1, _, _, hs => by
    have h1 : inG n = true := hs
    unfold inG at h1
    show Vaarrm.V.num n = .num (heldZ n)
    rw [heldZ_small (of_decide_eq_true h1)]
  | .arr s l, k + 1, h, hn, hs => by
    have h' : 1 + tdTL l < k + 1 := h
    have hn : (∀ n ∈ s, 0 ≤ n) ∧ tnnL l := hn
    obtain ⟨s1, s2⟩ := Bool.and_eq_true_iff.mp hs
    show Vaarrm.made (s.map fun n => n.toNat) (l.map (valueTold k)) = Vaarrm.made (s.map fun n => (heldZ n).toNat) (tvalL l)
    rw [value_isL l k (by omega) hn.2 s2, ext_held hn.1 s1]
theorem value_isL : ∀ (l : List Told) (k : Nat), tdTL l < k → tnnL l → tsmallL l = true → l.map (valueTold k) = tvalL l
  | [], k, _, _, _ => rfl
  | x :: l, k, h, hn, hs => by
    have h' : max (tdT x) (tdTL l) < k := h
    have hn : tnn x ∧ tnnL l := hn
    obtain ⟨s1, s2⟩ := Bool.and_eq_true_iff.mp hs
    rw [List.map_cons, value_is x k (by omega) hn.1 s1, value_isL l k (by omega) hn.2 s2]
    rfl
end
mutual
theorem shaped_is : ∀ (x : Told) (k : Nat), tdT x < k → tnn x → tsmall x = true → shapedTold k x = tshap x
  | x, 0, h, _, _ => absurd h (by omega)
  | .num n, k + 1, _, _, _ => rfl
  | .arr s l, k + 1, h, hn, hs => by
    have h' : 1 + tdTL l < k + 1 := h
    have hn : (∀ n ∈ s, 0 ≤ n) ∧ tnnL l := hn
    obtain ⟨s1, s2⟩ := Bool.and_eq_true_iff.mp hs
    show (Vaarrm.shapeOk (s.map fun n => n.toNat) && (decide (l.length = Vaarrm.product (s.map fun n => n.toNat)) && l.all (shapedTold k))) = (tshapL l && (Vaarrm.shapeOk (s.map fun n => (heldZ n).toNat) && decide ((tvalL l).length = Vaarrm.product (s.map fun n => (heldZ n).toNat))))
    rw [shaped_isL l k (by omega) hn.2 s2, ext_held hn.1 s1, tvalL_len]
    cases tshapL l <;> simp
theorem shaped_isL : ∀ (l : List Told) (k : Nat), tdTL l < k → tnnL l → tsmallL l = true → l.all (shapedTold k) = tshapL l
  | [], k, _, _, _ => rfl
  | x :: l, k, h, hn, hs => by
    have h' : max (tdT x) (tdTL l) < k := h
    have hn : tnn x ∧ tnnL l := hn
    obtain ⟨s1, s2⟩ := Bool.and_eq_true_iff.mp hs
    rw [List.all_cons, shaped_is x k (by omega) hn.1 s1, shaped_isL l k (by omega) hn.2 s2]
    rfl
end
/-! sizes -/
theorem made_cases (s : List Nat) (l : List U) : (∃ n, s = [] ∧ l = [.num n] ∧ Vaarrm.made s l = .num n) ∨ Vaarrm.made s l = .arr s l := by
  match s, l with
  | [], [.num n] => exact .inl ⟨n, rfl, rfl, rfl⟩
  | [], [] => exact .inr rfl
  | [], [.arr _ _] => exact .inr rfl
  | [], _ :: _ :: _ => exact .inr (by unfold Vaarrm.made; split <;> simp_all)
  | _ :: _, _ => exact .inr rfl
theorem made_depth (s : List Nat) (l : List U) : tdepth (Vaarrm.made s l) ≤ 1 + tdepthL l := by
  rcases made_cases s l with ⟨n, _, rfl, e⟩ | e
  · rw [e]
    show 0 ≤ _
    omega
  · rw [e]
    exact Nat.le_refl _
theorem made_size (s : List Nat) (l : List U) : tsize (Vaarrm.made s l) ≤ 1 + tsizeL l := by
  rcases made_cases s l with ⟨n, _, rfl, e⟩ | e
  · rw [e]
    show 1 ≤ _
    omega
  · rw [e]
    exact Nat.le_refl _
mutual
theorem tval_depth : ∀ x : Told, tdepth (tval x) ≤ tdT x
  | .num n => Nat.le_refl _
  | .arr s l => by
    have h1 := made_depth (s.map fun n => (heldZ n).toNat) (tvalL l)
    have h2 := tval_depthL l
    show tdepth (Vaarrm.made _ (tvalL l)) ≤ 1 + tdTL l
    omega
theorem tval_depthL : ∀ l : List Told, tdepthL (tvalL l) ≤ tdTL l
  | [] => Nat.le_refl _
  | x :: l => by
    have h1 := tval_depth x
    have h2 := tval_depthL l
    show max (tdepth (tval x)) (tdepthL (tvalL l)) ≤ max (tdT x) (tdTL l)
    omega
end
mutual
theorem tval_size : ∀ x : Told, tsize (tval x) ≤ (lin x).length ∧ tdT x < (lin x).length
  | .num n => ⟨Nat.le_refl _, Nat.one_pos⟩
  | .arr s l => by
    have h1 := made_size (s.map fun n => (heldZ n).toNat) (tvalL l)
    have h2 := tval_sizeL l
    have h3 : (lin (.arr s l)).length = (nums s).length + (linL l).length + 3 := by
      rw [lin_arr]
      simp only [List.length_cons, List.length_append, List.length_nil]
      omega
    rw [h3]
    show tsize (Vaarrm.made _ (tvalL l)) ≤ _ ∧ 1 + tdTL l < _
    omega
theorem tval_sizeL : ∀ l : List Told, tsizeL (tvalL l) ≤ (linL l).length ∧ tdTL l ≤ (linL l).length
  | [] => ⟨Nat.le_refl _, Nat.le_refl _⟩
  | x :: l => by
    have h1 := tval_size x
    have h2 := tval_sizeL l
    rw [linL_cons, List.length_append]
    show tsize (tval x) + tsizeL (tvalL l) ≤ _ ∧ max (tdT x) (tdTL l) ≤ _
    omega
end
theorem scanF_len (t : List Nat) : ∀ (m k : Nat) (st lv : Int) (acc : List Tk), k ≤ t.length → (scanF m t k st lv acc).1.length ≤ acc.length + (t.length - k)
  | 0, k, st, lv, acc, h => Nat.le_add_right _ _
  | m + 1, k, st, lv, acc, h => by
    by_cases hk : k < t.length
    · rw [scanF_turn m t k st lv acc hk]
      split
      · exact Nat.le_add_right _ _
      · rename_i h4
        obtain ⟨s, e1, e2, e3⟩ := (tokOf_stop hk).resolve_left fun z => h4 (adv_zero _ _ _ z)
        rw [e1, Int.toNat_natCast]
        have h5 := runLen_le isBlank (t.drop s)
        rw [List.length_drop] at h5
        have h6 := scanF_len t m (s + runLen isBlank (t.drop s)) (adv st lv (tokOf (t.drop k) k)).1 (adv st lv (tokOf (t.drop k) k)).2 (acc ++ [tokOf (t.drop k) k]) (by omega)
        rw [List.length_append, List.length_singleton] at h6
        omega
    · have e : k = t.length := by omega
      subst e
      rw [scanF_end]
      split <;> exact Nat.le_add_right _ _
theorem scanAll_len (t : List Nat) : (scanAll t).1.length ≤ t.length := by
  have h1 := runLen_le isBlank t
  have h2 := scanF_len t (t.length + 1) (runLen isBlank t) 0 0 [] h1
  unfold scanAll
  rw [List.length_nil] at h2
  omega
theorem nums_small : ∀ s : List Int, (∀ n ∈ s, 0 ≤ n) → (nums s).all (fun k => inG k.2) = s.all (fun n => decide (n ≤ 1000000000000000000))
  | [], _ => rfl
  | n :: s, h => by
    show (inG (heldZ n) && (nums s).all (fun k => inG k.2)) = _
    rw [nums_small s fun k hk => h k (List.mem_cons_of_mem _ hk), List.all_cons, inG_held]
    have h0 := h n List.mem_cons_self
    have e : inG n = decide (n ≤ 1000000000000000000) := by
      unfold inG
      exact decide_eq_decide.mpr ⟨fun z => z.2, fun z => ⟨by omega, z⟩⟩
    rw [e]
mutual
theorem lin_small : ∀ x : Told, tnn x → (lin x).all (fun k => inG k.2) = tsmall x
  | .num n, _ => by
    show (inG (heldZ n) && true) = inG n
    rw [inG_held, Bool.and_true]
  | .arr s l, h => by
    have h : (∀ n ∈ s, 0 ≤ n) ∧ tnnL l := h
    rw [lin_arr]
    have e := nums_small s h.1
    simp only [List.all_cons, List.all_append, List.all_nil, e, lin_smallL l h.2]
    show (inG 0 && (_ && (inG 0 && (tsmallL l && (inG 0 && true))))) = (_ && tsmallL l)
    rw [show inG 0 = true by decide]
    simp
theorem lin_smallL : ∀ l : List Told, tnnL l → (linL l).all (fun k => inG k.2) = tsmallL l
  | [], _ => rfl
  | x :: l, h => by
    have h : tnn x ∧ tnnL l := h
    rw [linL_cons, List.all_append, lin_small x h.1, lin_smallL l h.2]
    rfl
end
/-- no number alone in the empty shape -/
def nf1 (s : List Nat) (l : List U) : Bool := match s, l with
  | [], [.num _] => false
  | _, _ => true
theorem nf1_no {s : List Nat} {l : List U} (h : nf1 s l = false) : ∃ n, s = [] ∧ l = [.num n] := by
  match s, l with
  | [], [.num n] => exact ⟨n, rfl, rfl⟩
  | [], [] => cases h
  | [], [.arr _ _] => cases h
  | [], _ :: _ :: _ => unfold nf1 at h; split at h <;> simp_all
  | _ :: _, _ => cases h
theorem made_nf {s : List Nat} {l : List U} (h : nf1 s l = true) : Vaarrm.made s l = .arr s l := by
  rcases made_cases s l with ⟨n, rfl, rfl, _⟩ | e
  · cases h
  · exact e
/-- each array has a shape that is one and as many items as it tells, and none is a number's -/
def wfc (s : List Nat) (l : List U) : Bool := closeOk s l && nf1 s l
mutual
def wf : U → Bool
  | .num _ => true
  | .arr s l => wfc s l && wfL l
def wfL : List U → Bool
  | [] => true
  | v :: l => wf v && wfL l
end
theorem made_wf {s : List Nat} {l : List U} (h : closeOk s l = true) (h2 : wfL l = true) : wf (Vaarrm.made s l) = true := by
  cases e : nf1 s l with
  | false =>
    obtain ⟨n, rfl, rfl⟩ := nf1_no e
    rfl
  | true =>
    rw [made_nf e]
    show (closeOk s l && nf1 s l && wfL l) = true
    rw [h, e, h2]
    rfl
mutual
theorem tval_wf : ∀ x : Told, tshap x = true → wf (tval x) = true
  | .num n, _ => rfl
  | .arr s l, h => by
    obtain ⟨h1, h2⟩ := Bool.and_eq_true_iff.mp (show (tshapL l && closeOk (s.map fun n => (heldZ n).toNat) (tvalL l)) = true from h)
    exact made_wf h2 (tval_wfL l h1)
theorem tval_wfL : ∀ l : List Told, tshapL l = true → wfL (tvalL l) = true
  | [], _ => rfl
  | x :: l, h => by
    obtain ⟨h1, h2⟩ := Bool.and_eq_true_iff.mp (show (tshap x && tshapL l) = true from h)
    show (wf (tval x) && wfL (tvalL l)) = true
    rw [tval_wf x h1, tval_wfL l h2]
    rfl
end
/-- the specification's look at a text, from the program's side -/
inductive ReadIs (t : List Nat) : Prop
  | long (h : 8192 < t.length) (e : Vaarrm.read t = .error (-1))
  | form (h : t.length ≤ 8192) (p : Nat) (hp : (scanAll t).2 = (p : Int)) (e : Vaarrm.read t = .error (-2))
  | big (h : t.length ≤ 8192) (hp : (scanAll t).2 = -1) (hb : (scanAll t).1.all (fun k => inG k.num) = false) (e : Vaarrm.read t = .error (-3))
  | shape (h : t.length ≤ 8192) (hp : (scanAll t).2 = -1) (hb : (scanAll t).1.all (fun k => inG k.num) = true) (hf : bfold ([], [[]], false) ((scanAll t).1.map kn) = .error true) (e : Vaarrm.read t = .error (-4))
  | val (h : t.length ≤ 8192) (hp : (scanAll t).2 = -1) (hb : (scanAll t).1.all (fun k => inG k.num) = true) (v : U) (hf : bfold ([], [[]], false) ((scanAll t).1.map kn) = .ok ([], [[v]], false)) (hs : tsize v ≤ 8192) (hw : wf v = true)
      (e : Vaarrm.read t = if tlim v = true then .ok v else .error (-5))
theorem read_is (t : List Nat) : ReadIs t := by
  have ha := scan_read t
  by_cases hL : 8192 < t.length
  · refine .long hL ?_
    unfold Vaarrm.read
    rw [if_pos hL]
    rfl
  have hL' : t.length ≤ 8192 := by omega
  cases hr : readTold t with
  | error p =>
    rw [hr] at ha
    refine .form hL' p ha ?_
    unfold Vaarrm.read
    rw [if_neg hL, hr]
    rfl
  | ok x =>
    rw [hr] at ha
    obtain ⟨h1, h2⟩ : (scanAll t).2 = -1 ∧ (scanAll t).1.map kn = lin x := ha
    have hnn := readTold_nn t x hr
    have hlen : (lin x).length ≤ t.length := by
      rw [← h2, List.length_map]
      exact scanAll_len t
    obtain ⟨hsz, hdT⟩ := tval_size x
    have hd : tdT x < t.length + 1 := by omega
    have hall : (scanAll t).1.all (fun k => inG k.num) = tsmall x := by
      rw [← lin_small x hnn, ← h2, List.all_map]
      rfl
    have hread : Vaarrm.read t = if small (t.length + 1) x = false then .error Vaarrm.BIG
        else if shapedTold (t.length + 1) x = false then .error Vaarrm.SHAPE
        else if Vaarrm.within (t.length + 1) (valueTold (t.length + 1) x) = false then .error Vaarrm.LIMIT
        else .ok (valueTold (t.length + 1) x) := by
      unfold Vaarrm.read
      rw [if_neg hL, hr]
    rw [small_is x _ hd] at hread
    cases hs : tsmall x with
    | false =>
      rw [hs, if_pos rfl] at hread
      exact .big hL' h1 (by rw [hall, hs]) hread
    | true =>
      rw [hs, if_neg (by decide), shaped_is x _ hd hnn hs, value_is x _ hd hnn hs] at hread
      have hb : bfold ([], [[]], false) (lin x ++ []) = _ := bfold_lin x [] [] [] [] hnn
      rw [List.append_nil] at hb
      cases hp : tshap x with
      | false =>
        rw [hp, if_neg Bool.false_ne_true] at hb
        rw [hp, if_pos rfl] at hread
        exact .shape hL' h1 (by rw [hall, hs]) (by rw [h2]; exact hb) hread
      | true =>
        rw [hp, if_pos rfl] at hb
        rw [hp, if_neg (by decide), within_is _ _ (.inl (by have := tval_depth x; omega))] at hread
        refine .val hL' h1 (by rw [hall, hs]) (tval x) (by rw [h2]; exact hb) (by omega) (tval_wf x hp) ?_
        rw [hread]
        cases tlim (tval x) <;> rfl
end N
namespace N
open PySem L2
def spLook (K : PySem.W.Frag) (C CR : Addr) : Sp := fun vs H Q E => ∃ (a : Addr) (t : List Nat), vs = [.ref a] ∧ SqL K H a (Bs t) ∧ t.length ≤ 20000 ∧
  (∀ (v : U), Vaarrm.read t = .ok v → ∀ (u : V) (H' : Hp), Same H H' → Rep C H' u v → tsize v ≤ 512 → tdepth v ≤ 8 → wf v = true → Q u H') ∧ (∀ n, Vaarrm.read t = .error n → Fails CR E H n)
section
variable {P : Program} {w : World} {K : PySem.W.Frag} {mg : Str → Option Value} {base : Heap} {CTok CArr CRef fRef : Addr}
theorem sc_look : FnScope ["text", "token", "u", "tokens", "fault"] ["text"] (defScope sLook) := ⟨rfl, rfl, rfl, by decide +kernel, rfl, by decide +kernel, by decide +kernel⟩
theorem ok_look (T : Top1 K mg "look" sLook ["text"]) (c_LIMIT : CI mg "LIMIT" (-5)) (c_BIG : CI mg "BIG" (-3)) (c_FORM : CI mg "FORM" (-2)) (F_Token : ClF K CTok ["kind", "number", "stop"]) (R : PySem.RefX.RefTxt K mg CRef fRef) (D_within_limits : Def P w K mg base CX0 "within_limits" 3 ["u"] (spLimits CArr)) (D_build : Def P w K mg base (L2.CX P w) "build" 5 ["tokens"] (spBuild K CTok CArr CRef)) (D_within_bounds : Def P w K mg base CX0 "within_bounds" 1 ["n"] (spWithin)) (D_scan : Def P w K mg base CX0 "scan" 5 ["text"] (spScan K CTok)) (D_look_long : Def P w K mg base (L2.CX P w) "look_long" 2 ["text"] (spLookLong K CRef)) : Def P w K mg base (L2.CX P w) "look" 6 ["text"] (spLook K CArr CRef) := by
  refine T.okX sc_look (fun vs H Q E h => ?_) (fun f cdv A outer s H vs Q E hr h => ?_)
  · obtain ⟨a, t, rfl, _⟩ := h
    rfl
  obtain ⟨a, t, rfl, hS, hz, q, qf⟩ := h
  refine ⟨_, (pss_cons (ps_expr (pe_fn D_look_long (hr.mono (by decide)) (passes_call (takes_of rfl rfl rfl rfl) (fun _ _ _ _ h => h)) (pa_cons (pv 0) pa_nil))) (pss_cons (ps_asg (pe_fn D_scan (hr.mono (by decide)) pass0 (pa_cons (pv 0) pa_nil)) (pg_tup rfl (pgs_cons (pg_name (i := 3) sc_look.nd rfl (Or.inl rfl)) (pgs_cons (pg_name (i := 4) sc_look.nd rfl (Or.inl rfl)) pgs_nil)))) (pss_cons (ps_if (pt_cmpR op_ge (pv 4) pe_int (nomark _)) (pss_one (ps_raiseRef rfl R hr (takes_of rfl rfl rfl rfl) (pa_cons (pe_ci c_FORM) pa_nil))) pss_nil) (pss_cons (ps_for (passes_of rfl) rfl (pi_list (pv 3)) (pg_name (i := 1) sc_look.nd rfl (Or.inl rfl)) (pss_one (ps_if (pt_not (pt_val (pe_fn D_within_bounds (hr.mono (by decide)) pass0 (pa_cons (pe_fld (pv 1) rfl) pa_nil)))) (pss_one (ps_raiseRef rfl R hr (takes_of rfl rfl rfl rfl) (pa_cons (pe_ci c_BIG) pa_nil))) pss_nil))) (pss_cons (ps_set (i := 2) sc_look.nd rfl (Or.inl rfl) (pe_fn D_build (hr.mono (by decide)) (passes_call (takes_of rfl rfl rfl rfl) (fun _ _ _ _ h => h)) (pa_cons (pv 3) pa_nil))) (pss_cons (ps_if (pt_not (pt_val (pe_fn D_within_limits (hr.mono (by decide)) pass0 (pa_cons (pv 2) pa_nil)))) (pss_one (ps_raiseRef rfl R hr (takes_of rfl rfl rfl rfl) (pa_cons (pe_ci c_LIMIT) pa_nil))) pss_nil) (pss_one (ps_ret (pv 2))))))))), ?_⟩
  have hI := read_is t
  refine ⟨_, rfl, a, t, rfl, hS, fun hL => ?_, fun hL => ?_⟩
  · cases hI with
    | long _ e => exact qf _ e
    | form h _ _ e => omega
    | big h _ _ e => omega
    | shape h _ _ _ e => omega
    | val h _ _ _ _ _ _ e => omega
  refine ⟨_, rfl, a, t, rfl, hS, by omega, fun p tl us H1 e1 hp hl hT => ?_⟩
  refine ⟨p, _, rfl, SqT.of hp, rfl, _, _, rfl, _, _, rfl, rfl, _, rfl, _, _, rfl, rfl, _, rfl, ?_⟩
  by_cases hF : 0 ≤ (scanAll t).2
  · refine itT hF ⟨_, rfl, fun d hd => ?_⟩
    cases hI with
    | long h _ => omega
    | form h _ _ e => exact qf _ e d _ (e1.trans (same_new hd _)) upd_same
    | big h hp _ e => omega
    | shape h hp _ _ e => omega
    | val h hp _ _ _ _ _ e => omega
  refine itF hF ?_
  have hlen : us.length = (scanAll t).1.length := Paired.length hT
  have hks := scanAll_len t
  have gN := F_Token.no "number" (by simp)
  generalize hk : (scanAll t).1 = ks at *
  refine ⟨_, rfl, tl, rfl, ⟨_, SqL.of hl⟩, for_list (K := K) (a := tl) (xs := us) (fun i σ H' => H' = H1 ∧ (∀ k ∈ ks.take i, inG k.num = true) ∧ ∃ b c, σ = [some (.ref a), b, c, some (.ref tl), some (.int (scanAll t).2)]) ⟨rfl, fun k hk => absurd hk (by simp), none, none, rfl⟩ (fun i σ H' _ h => h.1 ▸ SqL.of hl) ?_ ?_⟩
  · rintro i y σ H' hi ⟨rfl, hg, b, c, rfl⟩
    obtain ⟨k, hki, z, dx, rfl, hz'⟩ := Paired.get2 hT hi
    refine ⟨_, rfl, z, CTok, dx, _, _, rfl, hz', F_Token.cl, gN, tokF_number _ _ _, _, rfl, _, rfl, ?_⟩
    cases hin : inG k.num with
    | true =>
      refine iteF ⟨rfl, fun k' hk' => ?_, some (.ref z), c, rfl⟩
      rw [take_more hki] at hk'
      rcases List.mem_append.mp hk' with hk' | hk'
      · exact hg k' hk'
      · rw [List.mem_singleton.mp hk']
        exact hin
    | false =>
      refine iteT ⟨_, rfl, fun d hd => ?_⟩
      have hno : ks.all (fun k => inG k.num) = false := by
        cases e : ks.all (fun k => inG k.num) with
        | false => rfl
        | true =>
          have := List.all_eq_true.mp e k (List.mem_of_getElem? hki)
          rw [hin] at this
          cases this
      cases hI with
      | long h _ => omega
      | form h p hp e => omega
      | big h hp _ e => exact qf _ e d _ (e1.trans (same_new hd _)) upd_same
      | shape h hp hb _ e => rw [hk, hno] at hb; cases hb
      | val h hp hb _ _ _ _ e => rw [hk, hno] at hb; cases hb
  · rintro σ H' ⟨rfl, hg, b, c, rfl⟩
    rw [hlen, List.take_length] at hg
    have hyes : ks.all (fun k => inG k.num) = true := List.all_eq_true.mpr hg
    have hb : ∀ k ∈ ks, -1000000000000000000 ≤ k.num ∧ k.num ≤ 1000000000000000000 := fun k hk => by
      have := hg k hk
      unfold inG at this
      exact of_decide_eq_true this
    refine ⟨_, rfl, tl, us, ks, rfl, SqL.of hl, hT, by omega, hb, ?_⟩
    cases hI with
    | long h _ => omega
    | form h p hp e => omega
    | big h hp hb e => rw [hk, hyes] at hb; cases hb
    | shape h hp _ hf e =>
      rw [hk] at hf
      exact .inr ⟨hf, (qf _ e).back e1⟩
    | val h hp _ v hf hs hw e =>
      rw [hk] at hf
      refine .inl ⟨v, hf, fun u H2 e2 hu => ?_⟩
      refine ⟨_, rfl, u, v, rfl, hu, by omega, fun H3 e3 => ⟨_, rfl, ?_⟩⟩
      cases hlim : tlim v with
      | false =>
        rw [hlim, if_neg Bool.false_ne_true] at e
        exact iteT ⟨_, rfl, fun d hd => qf _ e d _ (((e1.trans e2).trans e3).trans (same_new hd _)) upd_same⟩
      | true =>
        rw [hlim, if_pos rfl] at e
        have h2 := of_decide_eq_true (show decide (tsize v ≤ 512 ∧ tdepth v ≤ 8) = true from hlim)
        exact iteF ⟨_, rfl, q v e u _ ((e1.trans e2).trans e3) (hu.mono e3) h2.1 h2.2 hw⟩
end
end N
namespace N
open Vaarrm (shapeOf itemsOf rank)
theorem shapeOk_len {s : List Nat} (h : Vaarrm.shapeOk s = true) : s.length ≤ 4 := by
  unfold Vaarrm.shapeOk at h
  rw [Bool.and_eq_true] at h
  exact of_decide_eq_true h.1
theorem wf_arr {s : List Nat} {l : List U} (h : wf (.arr s l) = true) : Vaarrm.shapeOk s = true ∧ l.length = Vaarrm.product s ∧ wfL l = true ∧ Vaarrm.made s l = .arr s l := by
  have h' : ((Vaarrm.shapeOk s && decide (l.length = Vaarrm.product s)) && nf1 s l && wfL l) = true := h
  rw [Bool.and_eq_true, Bool.and_eq_true, Bool.and_eq_true] at h'
  exact ⟨h'.1.1.1, of_decide_eq_true h'.1.1.2, h'.2, made_nf h'.1.2⟩
theorem wfL_get : ∀ {l : List U} {i : Nat} {v : U}, wfL l = true → l[i]? = some v → wf v = true
  | [], _, _, _, e => by simp at e
  | a :: l, 0, v, h, e => by
    have h' : (wf a && wfL l) = true := h
    rw [Bool.and_eq_true] at h'
    rw [← Option.some.inj e]
    exact h'.1
  | a :: l, i + 1, v, h, e => by
    have h' : (wf a && wfL l) = true := h
    rw [Bool.and_eq_true] at h'
    exact wfL_get (i := i) h'.2 e
theorem items_wf {v : U} (h : wf v = true) : wfL (itemsOf v) = true := by
  cases v with
  | num n => rfl
  | arr s l => exact (wf_arr h).2.2.1
theorem wf_rank {v : U} (h : wf v = true) : (shapeOf v).length ≤ 4 := by
  cases v with
  | num n => exact Nat.zero_le _
  | arr s l => exact shapeOk_len (wf_arr h).1
mutual
theorem leaves_len : ∀ v : U, (tleaves v).length ≤ tsize v
  | .num n => Nat.le_refl _
  | .arr s l => by
    have := leaves_lenL l
    show (tleavesL l).length ≤ 1 + tsizeL l
    omega
theorem leaves_lenL : ∀ l : List U, (tleavesL l).length ≤ tsizeL l
  | [] => Nat.le_refl _
  | v :: l => by
    have h1 := leaves_len v
    have h2 := leaves_lenL l
    show (tleaves v ++ tleavesL l).length ≤ tsize v + tsizeL l
    rw [List.length_append]
    omega
end
/-! shapes' products -/
theorem prod_foldl (s : List Nat) : ∀ a : Nat, s.foldl (fun n x => n * x) a = a * s.foldl (fun n x => n * x) 1 := by
  induction s with
  | nil => intro a; rw [List.foldl_nil, List.foldl_nil, Nat.mul_one]
  | cons x s ih =>
    intro a
    rw [List.foldl_cons, List.foldl_cons, ih (a * x), ih (1 * x), Nat.one_mul, Nat.mul_assoc]
theorem prod_cons (n : Nat) (s : List Nat) : Vaarrm.product (n :: s) = n * Vaarrm.product s := by
  unfold Vaarrm.product
  rw [List.foldl_cons, prod_foldl s (1 * n), Nat.one_mul]
/-- the product of the numbers but 0 -/
def pf (s : List Nat) : Nat := Vaarrm.product (s.filter fun n => n != 0)
theorem pf_cons (n : Nat) (s : List Nat) : pf (n :: s) = if n = 0 then pf s else n * pf s := by
  unfold pf
  by_cases h : n = 0
  · rw [if_pos h, List.filter_cons_of_neg (by simp [h])]
  · rw [if_neg h, List.filter_cons_of_pos (by simp [h]), prod_cons]
theorem pf_pos : ∀ s : List Nat, 0 < pf s
  | [] => Nat.one_pos
  | n :: s => by
    rw [pf_cons]
    have := pf_pos s
    split
    · exact this
    · exact Nat.mul_pos (by omega) this
theorem pf_tail (n : Nat) (s : List Nat) : pf s ≤ pf (n :: s) := by
  rw [pf_cons]
  split
  · exact Nat.le_refl _
  · exact Nat.le_mul_of_pos_left _ (by omega)
theorem pf_head (n : Nat) (s : List Nat) : n ≤ pf (n :: s) := by
  rw [pf_cons]
  split
  · omega
  · exact Nat.le_mul_of_pos_right _ (pf_pos s)
theorem prod_pf : ∀ s : List Nat, Vaarrm.product s ≤ pf s
  | [] => Nat.le_refl _
  | n :: s => by
    rw [prod_cons, pf_cons]
    split
    · rename_i h
      rw [h, Nat.zero_mul]
      exact Nat.zero_le _
    · exact Nat.mul_le_mul_left _ (prod_pf s)
theorem shapeOk_pf {s : List Nat} (h : Vaarrm.shapeOk s = true) : pf s ≤ 256 := by
  unfold Vaarrm.shapeOk at h
  rw [Bool.and_eq_true] at h
  exact of_decide_eq_true h.2
end N
namespace N
/-! ### Plain Lean: every number replaced, whole -/
mutual
def tmap (f : Int → Int) : U → U
  | .num n => .num (f n)
  | .arr s l => .arr s (tmapL f l)
def tmapL (f : Int → Int) : List U → List U
  | [] => []
  | v :: l => tmap f v :: tmapL f l
end
mutual
theorem map_is (f : Int → Int) : ∀ (v : U) (k : Nat), tdepth v < k → Vaarrm.mapNums f k v = tmap f v
  | v, 0, h => absurd h (by omega)
  | .num n, k + 1, _ => rfl
  | .arr s l, k + 1, h => by
    have h' : 1 + tdepthL l < k + 1 := h
    show Vaarrm.V.arr s (l.map (Vaarrm.mapNums f k)) = Vaarrm.V.arr s (tmapL f l)
    rw [map_isL f l k (by omega)]
theorem map_isL (f : Int → Int) : ∀ (l : List U) (k : Nat), tdepthL l < k → l.map (Vaarrm.mapNums f k) = tmapL f l
  | [], k, _ => rfl
  | v :: l, k, h => by
    have h' : max (tdepth v) (tdepthL l) < k := h
    rw [List.map_cons, map_isL f l k (by omega), map_is f v k (by omega)]
    rfl
end
theorem tmapL_append (f : Int → Int) : ∀ l m : List U, tmapL f (l ++ m) = tmapL f l ++ tmapL f m
  | [], _ => rfl
  | v :: l, m => by
    show tmap f v :: tmapL f (l ++ m) = tmap f v :: (tmapL f l ++ tmapL f m)
    rw [tmapL_append f l m]
theorem tmapL_len (f : Int → Int) : ∀ l : List U, (tmapL f l).length = l.length
  | [] => rfl
  | v :: l => by
    show (tmapL f l).length + 1 = l.length + 1
    rw [tmapL_len f l]
mutual
theorem tmap_size (f : Int → Int) : ∀ v : U, tsize (tmap f v) = tsize v
  | .num n => rfl
  | .arr s l => by
    show 1 + tsizeL (tmapL f l) = 1 + tsizeL l
    rw [tmap_sizeL f l]
theorem tmap_sizeL (f : Int → Int) : ∀ l : List U, tsizeL (tmapL f l) = tsizeL l
  | [] => rfl
  | v :: l => by
    show tsize (tmap f v) + tsizeL (tmapL f l) = tsize v + tsizeL l
    rw [tmap_size f v, tmap_sizeL f l]
end
mutual
theorem tmap_depth (f : Int → Int) : ∀ v : U, tdepth (tmap f v) = tdepth v
  | .num n => rfl
  | .arr s l => by
    show 1 + tdepthL (tmapL f l) = 1 + tdepthL l
    rw [tmap_depthL f l]
theorem tmap_depthL (f : Int → Int) : ∀ l : List U, tdepthL (tmapL f l) = tdepthL l
  | [] => rfl
  | v :: l => by
    show max (tdepth (tmap f v)) (tdepthL (tmapL f l)) = max (tdepth v) (tdepthL l)
    rw [tmap_depth f v, tmap_depthL f l]
end
theorem made_tmap (f : Int → Int) (s : List Nat) (l : List U) (h : Vaarrm.made s l = .arr s l) : Vaarrm.made s (tmapL f l) = .arr s (tmapL f l) := by
  rcases made_cases s (tmapL f l) with ⟨n, rfl, e, _⟩ | e
  · cases l with
    | nil => cases e
    | cons v l =>
      cases l with
      | nil =>
        cases v with
        | num m => cases h
        | arr s' l' => cases e
      | cons w l =>
        have := congrArg List.length e
        rw [tmapL_len, List.length_cons, List.length_cons, List.length_singleton] at this
        omega
  · exact e
end N
namespace N
open PySem L2
/-! ### lists of whole numbers as data -/
def dI (s : List Nat) : List PyData := s.map fun (n : Nat) => PyData.int (n : Int)
theorem dpAll_ints {K : PySem.W.Frag} {H : Hp} : ∀ s : List Nat, DpAll K H (Bs s) (dI s)
  | [] => .nil
  | n :: s => .cons (.int (n : Int)) (dpAll_ints s)
theorem dp_ints {K : PySem.W.Frag} {H : Hp} {a : Addr} {s : List Nat} (h : SqL K H a (Bs s)) : Dp K H (.ref a) (.list (dI s)) := .lst h (dpAll_ints s)
theorem eqvAll_ints : ∀ s t : List Nat, PyData.eqvAll (dI s) (dI t) = decide (s = t)
  | [], [] => by simp [dI, PyData.eqvAll]
  | [], _ :: _ => by simp [dI, PyData.eqvAll]
  | _ :: _, [] => by simp [dI, PyData.eqvAll]
  | n :: s, m :: t => by
    show PyData.eqvAll (PyData.int (n : Int) :: dI s) (PyData.int (m : Int) :: dI t) = _
    rw [PyData.eqvAll, eqvAll_ints s t]
    simp only [PyData.eqv]
    by_cases h : n = m
    · subst h
      simp
    · simp [h]
      omega
theorem eqv_ints (s t : List Nat) : PyData.eqv (.list (dI s)) (.list (dI t)) = decide (s = t) := by
  simp only [PyData.eqv]
  exact eqvAll_ints s t
theorem lay_ints : ∀ s : List Nat, PyData.canLayAll0 (dI s) = true
  | [] => by simp [dI, PyData.canLayAll0]
  | n :: s => by
    show PyData.canLayAll0 (PyData.int (n : Int) :: dI s) = true
    rw [PyData.canLayAll0, lay_ints s]
    simp [PyData.canLay0]
theorem depth_ints : ∀ s : List Nat, PyData.depthAll (dI s) = 0
  | [] => by simp [dI, PyData.depthAll]
  | n :: s => by
    show PyData.depthAll (PyData.int (n : Int) :: dI s) = 0
    rw [PyData.depthAll, depth_ints s]
    simp [PyData.depth]
theorem shaped_ints (s : List Nat) : SeqAt.shaped (.list (dI s)) = true := by
  have h1 : PyData.canLay0 (.list (dI s)) = true := by
    rw [PyData.canLay0]
    exact lay_ints s
  have h2 : PyData.depth (.list (dI s)) ≤ 64 := by
    rw [PyData.depth, depth_ints]
    decide
  exact Bool.and_eq_true_iff.mpr ⟨h1, decide_eq_true h2⟩
end N
namespace N
open PySem L2
/-! ### slices; cells -/
theorem cutV_nat (xs : List V) (a b : Nat) (h : a ≤ b) : cutV xs (some (a : Int)) (some (b : Int)) = (xs.drop a).take (b - a) := by
  unfold cutV
  rw [HT.sIx_nat, HT.sIx_nat]
  by_cases ha : a ≤ xs.length
  · rw [Nat.min_eq_left ha]
    by_cases hb : b ≤ xs.length
    · rw [Nat.min_eq_left hb]
    · rw [Nat.min_eq_right (by omega), List.take_of_length_le (by rw [List.length_drop]; omega), List.take_of_length_le (by rw [List.length_drop]; omega)]
  · rw [List.drop_eq_nil_of_le (by omega : xs.length ≤ min a xs.length), List.drop_eq_nil_of_le (by omega : xs.length ≤ a), List.take_nil, List.take_nil]
theorem cutV_from (xs : List V) (a : Nat) : cutV xs (some (a : Int)) none = xs.drop a := by
  unfold cutV
  rw [HT.sIx_nat, HT.sIx_none]
  by_cases ha : a ≤ xs.length
  · rw [Nat.min_eq_left ha, List.take_of_length_le (by rw [List.length_drop]; omega)]
  · rw [List.drop_eq_nil_of_le (by omega : xs.length ≤ min a xs.length), List.drop_eq_nil_of_le (by omega : xs.length ≤ a), List.take_nil]
theorem Bs_drop (s : List Nat) (n : Nat) : (Bs s).drop n = Bs (s.drop n) := List.map_drop.symm
theorem pieces_len (c : Nat) : ∀ (n : Nat) (l : List U), (Vaarrm.pieces c n l).length = n
  | 0, _ => rfl
  | n + 1, l => by
    show (Vaarrm.pieces c n (l.drop c)).length + 1 = n + 1
    rw [pieces_len c n]
theorem pieces_get (c : Nat) : ∀ (n : Nat) (l : List U) (j : Nat), j < n → (Vaarrm.pieces c n l)[j]? = some ((l.drop (j * c)).take c)
  | 0, _, _, h => absurd h (by omega)
  | n + 1, l, 0, _ => by
    show some (l.take c) = some ((l.drop (0 * c)).take c)
    rw [Nat.zero_mul, List.drop_zero]
  | n + 1, l, j + 1, h => by
    show (Vaarrm.pieces c n (l.drop c))[j]? = _
    rw [pieces_get c n (l.drop c) j (by omega), List.drop_drop]
    congr 3
    rw [Nat.succ_mul]
    omega
/-- the answer: a new list of lists -/
def GotR (C : Addr) (Q : VK) (H Hf : Hp) (ls : List (List U)) : Prop := ∀ (p : Addr) (xs : List V) (H' Hf' : Hp), H p = none → Grow H H' Hf Hf' → H' p = some (.lst xs) → Hf' p = none → Rows C Hf' xs ls → Q (.ref p) H'
end N
namespace N
open PySem L2
/-! ### sums and runs -/
def psums (n : Int) : List Int → List Int
  | [] => [n]
  | x :: r => n :: psums (n + x) r
theorem psums_snoc (x : Int) : ∀ (l : List Int) (n : Int), psums n (l ++ [x]) = psums n l ++ [n + l.sum + x]
  | [], n => by
    show n :: [n + x] = [n] ++ [n + 0 + x]
    rw [Int.add_zero]
    rfl
  | y :: l, n => by
    show n :: psums (n + y) (l ++ [x]) = n :: (psums (n + y) l ++ [n + (y :: l).sum + x])
    rw [psums_snoc x l (n + y), List.sum_cons, Int.add_assoc n y]
theorem psums_last : ∀ (l : List Int) (n : Int), ∃ zs, psums n l = zs ++ [n + l.sum]
  | [], n => ⟨[], by show [n] = [n + 0]; rw [Int.add_zero]⟩
  | y :: l, n => by
    obtain ⟨zs, h⟩ := psums_last l (n + y)
    refine ⟨n :: zs, ?_⟩
    show n :: psums (n + y) l = n :: (zs ++ [n + (y :: l).sum])
    rw [h, List.sum_cons, Int.add_assoc]
theorem psums_len : ∀ (l : List Int) (n : Int), (psums n l).length = l.length + 1
  | [], _ => rfl
  | y :: l, n => by
    show (psums (n + y) l).length + 1 = l.length + 1 + 1
    rw [psums_len l]
theorem atI_last {α : Type} (xs : List α) (y : α) : atI (xs ++ [y]) (-1) = some y := by
  unfold atI ixN
  rw [List.length_append, List.length_singleton]
  rw [if_neg (by omega), if_pos (by omega)]
  show (xs ++ [y])[(((xs.length + 1 : Nat) : Int) + -1).toNat]? = some y
  rw [show (((xs.length + 1 : Nat) : Int) + -1).toNat = xs.length by omega, List.getElem?_append_right (Nat.le_refl _), Nat.sub_self]
  rfl
/-- the runs from each offset to the next one -/
def runsBy : List Nat → List U → List U
  | a :: b :: r, l => Vaarrm.vector ((l.drop a).take (b - a)) :: runsBy (b :: r) l
  | _, _ => []
theorem runsBy_len : ∀ (ss : List Nat) (l : List U), (runsBy ss l).length = ss.length - 1
  | [], _ => rfl
  | [_], _ => rfl
  | a :: b :: r, l => by
    show (runsBy (b :: r) l).length + 1 = (b :: r).length
    rw [runsBy_len (b :: r) l]
    rfl
theorem runsBy_get : ∀ (ss : List Nat) (l : List U) (i a b : Nat), ss[i]? = some a → ss[i + 1]? = some b → (runsBy ss l)[i]? = some (Vaarrm.vector ((l.drop a).take (b - a)))
  | [], _, _, _, _, h, _ => by simp at h
  | [_], _, _, _, _, _, h => by simp at h
  | x :: y :: r, l, 0, a, b, h1, h2 => by
    have e1 : x = a := Option.some.inj h1
    have e2 : y = b := Option.some.inj h2
    subst e1
    subst e2
    rfl
  | x :: y :: r, l, i + 1, a, b, h1, h2 => runsBy_get (y :: r) l i a b h1 h2
/-- never going down -/
def up : List Nat → Prop
  | a :: b :: r => a ≤ b ∧ up (b :: r)
  | _ => True
theorem up_get : ∀ (ss : List Nat) (i a b : Nat), up ss → ss[i]? = some a → ss[i + 1]? = some b → a ≤ b
  | [], _, _, _, _, h, _ => by simp at h
  | [_], _, _, _, _, _, h => by simp at h
  | x :: y :: r, 0, a, b, h, h1, h2 => by
    have e1 : x = a := Option.some.inj h1
    have e2 : y = b := Option.some.inj h2
    subst e1
    subst e2
    exact h.1
  | x :: y :: r, i + 1, a, b, h, h1, h2 => up_get (y :: r) i a b h.2 h1 h2
/-- the answer: a new list of what stands for l, new things on the way -/
def GotN (C : Addr) (Q : VK) (H Hf : Hp) (l : List U) : Prop := ∀ (p : Addr) (xs : List V) (H' Hf' : Hp), H p = none → Grow H H' Hf Hf' → H' p = some (.lst xs) → Hf' p = none → Reps C Hf' xs l → Q (.ref p) H'
theorem take_sub {α : Type} (l : List α) (a n : Nat) : ((l.drop a).take n).length ≤ l.length := by
  rw [List.length_take, List.length_drop]
  omega
theorem psums_nat : ∀ (l : List Nat) (n : Nat), psums (n : Int) (l.map fun (x : Nat) => (x : Int)) = (Vaarrm.sums n l).map fun (x : Nat) => (x : Int)
  | [], _ => rfl
  | x :: l, n => by
    show (n : Int) :: psums ((n : Int) + (x : Int)) (l.map fun (x : Nat) => (x : Int)) = (n : Int) :: (Vaarrm.sums (n + x) l).map fun (x : Nat) => (x : Int)
    rw [← psums_nat l (n + x)]
    rfl
theorem sums_cons (n : Nat) (l : List Nat) : ∃ r, Vaarrm.sums n l = n :: r := by
  cases l with
  | nil => exact ⟨[], rfl⟩
  | cons x l => exact ⟨_, rfl⟩
theorem sums_up : ∀ (l : List Nat) (n : Nat), up (Vaarrm.sums n l)
  | [], _ => trivial
  | x :: l, n => by
    have h := sums_up l (n + x)
    obtain ⟨r, hr⟩ := sums_cons (n + x) l
    show up (n :: Vaarrm.sums (n + x) l)
    rw [hr] at h ⊢
    exact ⟨by omega, h⟩
theorem sums_len : ∀ (l : List Nat) (n : Nat), (Vaarrm.sums n l).length = l.length + 1
  | [], _ => rfl
  | x :: l, n => by
    show (Vaarrm.sums (n + x) l).length + 1 = l.length + 1 + 1
    rw [sums_len l]
theorem runs_is : ∀ (ls : List Nat) (n : Nat) (l : List U), Vaarrm.runs ls (l.drop n) = runsBy (Vaarrm.sums n ls) l
  | [], _, _ => rfl
  | x :: ls, n, l => by
    obtain ⟨r, hr⟩ := sums_cons (n + x) ls
    show Vaarrm.vector ((l.drop n).take x) :: Vaarrm.runs ls ((l.drop n).drop x) = runsBy (n :: Vaarrm.sums (n + x) ls) l
    rw [List.drop_drop, runs_is ls (n + x) l, hr]
    show _ = Vaarrm.vector ((l.drop n).take (n + x - n)) :: runsBy ((n + x) :: r) l
    rw [show n + x - n = x by omega]
theorem foldl_sum (l : List Int) : ∀ n : Int, l.foldl (fun n x => n + x) n = n + l.sum := by
  induction l with
  | nil =>
    intro n
    show n = n + 0
    omega
  | cons x l ih =>
    intro n
    rw [List.foldl_cons, ih, List.sum_cons]
    omega
theorem nats_of {ns : List Int} (h : ∀ n ∈ ns, 0 ≤ n) : ns = (ns.map fun n => n.toNat).map fun (x : Nat) => (x : Int) := by
  rw [List.map_map]
  conv => lhs; rw [← List.map_id ns]
  exact List.map_congr_left fun n hn => by
    show n = ((n.toNat : Nat) : Int)
    have := h n hn
    omega
theorem runs_size : ∀ (ls : List Nat) (l : List U), tsizeL (Vaarrm.runs ls l) ≤ ls.length + tsizeL l
  | [], _ => Nat.zero_le _
  | x :: ls, l => by
    have h1 := runs_size ls (l.drop x)
    have h3 : tsizeL l = tsizeL (l.take x) + tsizeL (l.drop x) := by rw [← tsizeL_append, List.take_append_drop]
    show 1 + tsizeL (l.take x) + tsizeL (Vaarrm.runs ls (l.drop x)) ≤ ls.length + 1 + tsizeL l
    omega
end N
namespace N
open PySem L2
def spExtOf (C : Addr) : Sp := fun vs H Q _ => ∃ (u : V) (v : U), vs = [u] ∧ Rep C H u v ∧ GotL Q H (Bs (Vaarrm.shapeOf v))
section
variable {P : Program} {w : World} {K : PySem.W.Frag} {mg : Str → Option Value} {base : Heap} {CArr : Addr}
theorem sc_extents_of : FnScope ["u"] ["u"] (defScope sExtentsOf) := ⟨rfl, rfl, rfl, by decide +kernel, rfl, by decide +kernel, by decide +kernel⟩
theorem ok_extents_of (T : Top1 K mg "extents_of" sExtentsOf ["u"]) (b_list : mg "list" = none) (F_Arr : ClF K CArr ["extents", "members"]) (D_is_number : Def P w K mg base CX0 "is_number" 1 ["u"] (spIsNum CArr)) : Def P w K mg base CX0 "extents_of" 2 ["u"] (spExtOf CArr) := by
  refine T.ok sc_extents_of (fun vs H Q E h => ?_) (fun f cdv A outer s H vs Q E hr h => ?_)
  · obtain ⟨u, v, rfl, _⟩ := h
    rfl
  obtain ⟨u, v, rfl, hu, q⟩ := h
  refine ⟨_, (pss_cons (ps_if (pt_val (pe_fn D_is_number (hr.mono (by decide)) pass0 (pa_cons (pv 0) pa_nil))) (pss_one (ps_ret (pe_lst pa_nil))) pss_nil) (pss_one (ps_ret (pe_callTy call_list_of (by rfl) b_list (by decide +kernel) (pa_cons (pe_fld (pv 0) rfl) pa_nil))))), ?_⟩
  refine ⟨_, rfl, u, v, rfl, hu, _, rfl, ?_⟩
  cases v with
  | num n => exact iteT ⟨Nat.zero_le _, fun l hl => q l _ hl (same_new hl _) upd_same⟩
  | arr s l =>
    obtain ⟨x, dx, e, m, us, rfl, hx, he, hm, hb, hl⟩ := hu.of_arr
    exact iteF ⟨_, rfl, x, CArr, dx, _, _, rfl, hx, F_Arr.cl, F_Arr.no "extents" (by simp), arrF_ext _ _, e, _, rfl, .inl (SqL.of he), fun r hr0 => q r _ hr0 (same_new hr0 _) upd_same⟩
end
end N
namespace N
open PySem L2
def spRankOf (C : Addr) : Sp := fun vs H Q _ => ∃ (u : V) (v : U), vs = [u] ∧ Rep C H u v ∧ ∀ H', Same H H' → Q (.int ((Vaarrm.rank v : Nat) : Int)) H'
section
variable {P : Program} {w : World} {K : PySem.W.Frag} {mg : Str → Option Value} {base : Heap} {CArr : Addr}
theorem sc_rank_of : FnScope ["u"] ["u"] (defScope sRankOf) := ⟨rfl, rfl, rfl, by decide +kernel, rfl, by decide +kernel, by decide +kernel⟩
theorem ok_rank_of (T : Top1 K mg "rank_of" sRankOf ["u"]) (b_len : mg "len" = none) (D_extents_of : Def P w K mg base CX0 "extents_of" 2 ["u"] (spExtOf CArr)) : Def P w K mg base CX0 "rank_of" 3 ["u"] (spRankOf CArr) := by
  refine T.ok sc_rank_of (fun vs H Q E h => ?_) (fun f cdv A outer s H vs Q E hr h => ?_)
  · obtain ⟨u, v, rfl, _⟩ := h
    rfl
  obtain ⟨u, v, rfl, hu, q⟩ := h
  refine ⟨_, (pss_one (ps_ret (pe_callB call_len_seq (by rfl) b_len (by decide +kernel) (pa_cons (pe_fn D_extents_of (hr.mono (by decide)) pass0 (pa_cons (pv 0) pa_nil)) pa_nil)))), ?_⟩
  refine ⟨_, rfl, u, v, rfl, hu, fun p H1 hp e1 hp1 => ⟨p, _, rfl, .inl (SqL.of hp1), ?_⟩⟩
  rw [Bs_len]
  exact q _ e1
end
end N
namespace N
open PySem L2
/-- members_of(u) -/
def spMembersOf (C : Addr) : Sp := fun vs H Q _ => ∃ (Hf : Hp) (u : V) (v : U), vs = [u] ∧ Same Hf H ∧ Rep C Hf u v ∧ GotM C Q H Hf (Vaarrm.itemsOf v)
theorem items_size (v : U) : tsizeL (Vaarrm.itemsOf v) ≤ tsize v := by
  cases v with
  | num n => exact Nat.le_refl _
  | arr s l =>
    show tsizeL l ≤ 1 + tsizeL l
    omega
section
variable {P : Program} {w : World} {K : PySem.W.Frag} {mg : Str → Option Value} {base : Heap} {CArr : Addr}
theorem sc_members_of : FnScope ["u"] ["u"] (defScope sMembersOf) := ⟨rfl, rfl, rfl, by decide +kernel, rfl, by decide +kernel, by decide +kernel⟩
theorem ok_members_of (T : Top1 K mg "members_of" sMembersOf ["u"]) (b_list : mg "list" = none) (F_Arr : ClF K CArr ["extents", "members"]) (D_is_number : Def P w K mg base CX0 "is_number" 1 ["u"] (spIsNum CArr)) : Def P w K mg base CX0 "members_of" 2 ["u"] (spMembersOf CArr) := by
  refine T.ok sc_members_of (fun vs H Q E h => ?_) (fun f cdv A outer s H vs Q E hr h => ?_)
  · obtain ⟨Hf, u, v, rfl, _⟩ := h
    rfl
  obtain ⟨Hf, u, v, rfl, hs, hu, q⟩ := h
  refine ⟨_, (pss_cons (ps_if (pt_val (pe_fn D_is_number (hr.mono (by decide)) pass0 (pa_cons (pv 0) pa_nil))) (pss_one (ps_ret (pe_lst (pa_cons (pv 0) pa_nil)))) pss_nil) (pss_one (ps_ret (pe_callTy call_list_of (by rfl) b_list (by decide +kernel) (pa_cons (pe_fld (pv 0) rfl) pa_nil))))), ?_⟩
  refine ⟨_, rfl, u, v, rfl, hu.mono hs, _, rfl, ?_⟩
  cases v with
  | num n => exact iteT ⟨_, rfl, by show 1 ≤ sizeLine; decide, fun l hl => q l _ _ hl (same_new hl _) upd_same (.one hu)⟩
  | arr s l =>
    obtain ⟨x, dx, e, m, us, rfl, hx, he, hm, hb, hl⟩ := hu.of_arr
    exact iteF ⟨_, rfl, x, CArr, dx, _, _, rfl, hs _ _ hx, F_Arr.cl, F_Arr.no "members" (by simp), arrF_mem _ _, m, _, rfl, .inl (SqL.of (hs _ _ hm)), fun r hr0 => q r us _ hr0 (same_new hr0 _) upd_same hl⟩
end
end N
/-! ### list(reversed(a list)): a new list -/
namespace N
open PySem PySem.Spec PyProof.Rows L2 RT
section
variable {prog : Program} {w : World} {A : Around} {E : Value → Shared → Prop} {s : Shared}
theorem extend_rev {R : Result → Shared → Prop} {it l S : Addr} {xs : Array Value} {c0 : Nat} (hh : A.handled = none) (hit : s.heap.IsRevIter it l ((xs.size : Int) - 1)) (hl : s.heap.IsList l xs) (hne : l ≠ it) (hn : xs.size ≤ sizeLine)
    (hS : s.heap.get? S = some { cls := .type "list", data := .seq #[] c0 }) (hSi : S ≠ it) (hSl : S ≠ l)
    (hR : ∀ (s' : Shared) (acc : Array Value) (c : Nat), Moved [S, it] (fun a b => b = a) s s' → s'.heap.get? S = some { cls := .type "list", dict := none, data := .seq acc c, slots := #[] } → ItemsOf (fun i v => xs[xs.size - 1 - i]? = some v) acc xs.size → R (.ok (.ret .none)) s') :
    wpAny (model prog w) A.in1 (Builtin.List.listExtendWith (.ref S) (.ref it) .none)
      (fun fin s' => match fin with | .done f => R (.ok f) s' | .again c' => c'.quiet = true ∧ codeAny (model prog w) A c' R s') (fun e s' => R (.error e) s') s := by
  have W := (Walks.listRev (prog := prog) (w := w) (A := A.in1) hh it l hne xs).toS
  have hT : s.TypeIs (.ref it) "list_reverseiterator" := hit.typeIs
  have away : S ∉ [it, l] := fun h => by
    rcases List.mem_cons.mp h with h | h
    · exact hSi h
    · exact hSl (List.mem_singleton.mp h)
  have b0 : Builtin.List.listSameRef (.ref S) (.ref it) = false := by simp [Builtin.List.listSameRef, hSi]
  unfold Builtin.List.listExtendWith
  refine wpAny_bind (wpAny_typeOf hT ?_)
  rw [if_neg (by rw [b0]; decide)]
  refine wpAny_bind (wpAny_pyIter_revIter (s := s) hit ?_)
  refine wpAny_bind (wpAny_holding ?_)
  unfold Builtin.List.listLengthHint
  refine wpAny_bind (wpAny_specialOf hT nolen_lri ?_)
  show wpAny _ A.in1 (specialOf (Value.ref it) (Str.ofString "__length_hint__") >>= _) _ _ _
  refine wpAny_bind (wpAny_specialOf hT hint_lri ?_)
  generalize ew : ("list_reverseiterator.__length_hint__" : String) = wd
  wp_delta
  rw [show splitId wd = some ("list_reverseiterator", "__length_hint__") from by subst ew; decide +kernel]
  subst ew
  refine wpAny_bind (wpAny_isInstance (b := true) hT (by rw [isSubtype_type]; kernel_rfl) ?_)
  refine wpAny_pure ?_
  rw [if_neg (by decide)]
  have z0 : ((xs.size : Nat) : Int) - 1 - ((0 : Nat) : Int) = (xs.size : Int) - 1 := by omega
  exact wpAny_pure ⟨plainId_quiet F.plain_extend_loop _, codeAny_extend_loopS W hn _ away _ xs.size 0 _ _ _ rfl (Nat.zero_le _) ⟨Nat.zero_le _, by rw [z0]; exact hit, hl⟩ hS (ItemsOf.nil _) fun s' acc c hm hs' ha => hR s' acc c hm hs' ha⟩
theorem init_rev {R : Result → Shared → Prop} {it l S : Addr} {xs : Array Value} (hh : A.handled = none) (hit : s.heap.IsRevIter it l ((xs.size : Int) - 1)) (hl : s.heap.IsList l xs) (hne : l ≠ it) (hn : xs.size ≤ sizeLine)
    (hS : s.heap.get? S = some { cls := .type "list", data := .seq #[] }) (hSi : S ≠ it) (hSl : S ≠ l)
    (hR : ∀ (s' : Shared) (acc : Array Value) (c : Nat), Moved [S, it] (fun a b => b = a) s s' → s'.heap.get? S = some { cls := .type "list", dict := none, data := .seq acc c, slots := #[] } → ItemsOf (fun i v => xs[xs.size - 1 - i]? = some v) acc xs.size → R (.ok (.ret .none)) s') :
    wpAny (model prog w) A.in1 (Builtin.«list.__init__» ⟨[.ref S, .ref it], []⟩)
      (fun fin s' => match fin with | .done f => R (.ok f) s' | .again c' => c'.quiet = true ∧ codeAny (model prog w) A c' R s') (fun e s' => R (.error e) s') s := by
  show wpAny _ A.in1 (do let was ← Builtin.List.listItems (.ref S); Builtin.List.listUpdate (.ref S) (fun _ => #[]); letGo was.toList.reverse; Builtin.List.listExtendWith (.ref S) (.ref it) .none) _ _ s
  refine wpAny_bind ?_
  unfold Builtin.List.listItems
  refine wpAny_bind (wpAny_seqItems hS rfl (wpAny_pure ?_))
  show wpAny _ A.in1 (updateSeq S (fun _ => #[]) >>= fun _ => letGo (#[] : Array Value).toList.reverse >>= fun _ => Builtin.List.listExtendWith (.ref S) (.ref it) .none) _ _ s
  refine wpAny_bind (wpAny_updateSeq hS rfl ?_)
  have hS1 := Heap.get?_update_self (Obj.mapSeq (fun _ => (#[] : Array Value))) hS rfl
  have k1 : ∀ b o, b ≠ S → s.heap.get? b = some o → (s.heap.update S (Obj.mapSeq (fun _ => (#[] : Array Value)))).get? b = some o := fun b o hb e => (Heap.get?_update_other _ _ (Ne.symm hb)).trans e
  refine wpAny_bind (wpAny_letGo ?_)
  obtain ⟨ol, hol, hlr⟩ := id hl
  refine extend_rev hh (hit.at fun o e => k1 it o (Ne.symm hSi) e) ⟨ol, k1 l ol (Ne.symm hSl) hol, hlr⟩ hne hn hS1 hSi hSl fun s' acc c hm hs' ha => ?_
  have m1 : Moved [S, it] (fun a b => b = a) s { s with heap := s.heap.update S (Obj.mapSeq (fun _ => (#[] : Array Value))), toks := s.toks } := (Moved.refl (wr := [S, it]) (G := fun a b => b = a) (fun _ => rfl)).then_heap (Nat.le_refl _) fun b o hb e => k1 b o (fun h => hb (by rw [h]; exact List.mem_cons_self)) e
  exact hR s' acc c (Moved.trans (fun _ _ _ p q => by rw [q, p]) m1 hm) hs' ha
theorem call_list_rev {it l : Addr} {xs : Array Value} {Q : Value → Shared → Prop} (hh : A.handled = none) (hit : s.heap.IsRevIter it l ((xs.size : Int) - 1)) (hl : s.heap.IsList l xs) (hne : l ≠ it) (hn : xs.size ≤ sizeLine)
    (hQ : ∀ (h' : Heap) (tk : Nat) (acc : Array Value) (c : Nat), (∀ b o, b ≠ it → s.heap.get? b = some o → h'.get? b = some o) → h'.get? s.heap.objs.size = some { cls := .type "list", dict := none, data := .seq acc c, slots := #[] } → ItemsOf (fun i v => xs[xs.size - 1 - i]? = some v) acc xs.size →
      Q (.ref s.heap.objs.size) { s with heap := h', toks := tk }) :
    wpAny (model prog w) A (call (.type "list") [.ref it]) Q E s := by
  obtain ⟨oi, hoi, _⟩ := id hit
  obtain ⟨ol, hol, _⟩ := id hl
  refine callType_codes (Q₁ := fun obj s1 => obj = .ref s.heap.objs.size ∧ s1 = { s with heap := s.heap.push { cls := .type "list", data := .seq #[] } }) F.called_list (F.typeCall_list_1 _) F.entry_list_init (code_list_new _ ⟨rfl, rfl⟩) fun obj s1 h1 => ?_
  obtain ⟨rfl, rfl⟩ := h1
  have hS : (s.heap.push { cls := .type "list", data := .seq #[] }).get? s.heap.objs.size = some { cls := .type "list", data := .seq #[] } := Heap.get?_push_size _ rfl
  refine ⟨⟨_, hS, rfl⟩, F.args_list_init_2 _ _, init_rev (A := A.in1) hh (hit.at fun o e => Heap.get?_push_of_some _ e) (hl.push _) hne hn hS (Nat.ne_of_gt (Heap.lt_size hoi)) (Nat.ne_of_gt (Heap.lt_size hol)) fun s' acc c hm hs' ha => ⟨rfl, ?_⟩⟩
  rw [Moved.eq_with hm]
  refine hQ s'.heap s'.toks acc c (fun b o hb e => hm.heap b o (fun h => ?_) (Heap.get?_push_of_some _ e)) hs' ha
  rcases List.mem_cons.mp h with h | h
  · exact absurd (Heap.lt_size e) (by rw [h]; exact Nat.lt_irrefl _)
  · exact hb (List.mem_singleton.mp h)
end
/-- what is asked: a list, read; what is told: a new list, turned round -/
def tListRev (K : PySem.W.Frag) (te : TE) : TE := fun σ H Q => te σ H fun v H1 => ∃ (a : Addr) (xs : List V), v = .ref a ∧ SqL K H1 a xs ∧ ∀ q, H1 q = none → Q (.ref q) (upd H1 q (.lst xs.reverse))
section
variable {X : Cx}
theorem pe_listRev {e : Expr} {te : TE} {p p2 pos pos2 : Pos} (hc : X.calm = true) (hg : Gl X "list") (hm : X.mg "list" = none) (hg2 : Gl X "reversed") (hm2 : X.mg "reversed" = none) (he : PE X e te)
    (hs : starEach [e] X.env = (false, eval e X.env) :: starEach [] X.env := by rfl)
    (hs2 : starEach [.Call (.Name "reversed" p2) [e] [] pos2] X.env = (false, eval (.Call (.Name "reversed" p2) [e] [] pos2) X.env) :: starEach [] X.env := by rfl) :
    PE X (.Call (.Name "list" p) [.Call (.Name "reversed" p2) [e] [] pos2] [] pos) (tListRev X.K te) := by
  refine ⟨fun pins s σ H Q I h => ?_⟩
  refine Call_ (ld_blt I hg hm boot_list (PyProof.Rows.callWith_type1 (args_cons (Call_ (ld_blt I hg2 hm2 PyProof.Rows.boot_reversed (PyProof.Rows.callWith_type1 (args_cons (thn (he.run pins s σ H _ I h) fun u s1 ⟨v, H1, I1, r1, q1⟩ => args_nil ?_) hs) hs rfl))) hs2) hs2 rfl))
  obtain ⟨a, xs, ev, hq, q⟩ := q1
  subst ev
  obtain rfl : u = Value.ref a := r1
  obtain ⟨its, rv, p', hz⟩ := I1.list hq
  refine call_reversed_list p'.isList (args_nil ?_)
  have hl := p'.isList
  obtain ⟨ol, hol, _⟩ := id hl
  have hne : a ≠ s1.heap.objs.size := Nat.ne_of_lt (Heap.lt_size hol)
  have hn : its.toArray.size ≤ sizeLine := by rw [List.size_toArray, ← rv.length]; exact hz
  have I2 : Inv X pins σ H1 { s1 with heap := s1.heap.push (revObj a ((its.toArray.size : Int) - 1)) } := I1.kept (t' := s1.toks) fun b o e => Heap.get?_push_of_some _ e
  obtain ⟨f0, f1, f2, f3, f4, f5⟩ := I1.fpOk (H' := H1) (b := s1.heap.objs.size) (Nat.le_refl _) (I1.hok.fresh (Nat.le_refl _))
  refine call_list_rev (s := { s1 with heap := s1.heap.push (revObj a ((its.toArray.size : Int) - 1)) }) (I1.ok.hd hc) ⟨_, Heap.get?_push_size _ rfl, rfl, rfl⟩ (hl.push _) hne hn fun h' tk acc c hk hN hi => ?_
  have k2 : ∀ b o, b ∉ [s1.heap.objs.size] → (s1.heap.push (revObj a ((its.toArray.size : Int) - 1))).get? b = some o → h'.get? b = some o := fun b o hb e => hk b o (fun z => hb (by rw [z]; exact List.mem_cons_self)) e
  have I3 := I2.turnedNew (t' := tk) (ob := .lst xs.reverse) k2 (fun b hb => by rw [List.mem_singleton.mp hb]; exact ⟨f0, f1, f2, f3, f4, f5⟩) (Nat.le_refl _) ⟨by rw [List.length_reverse]; exact hz, acc.toList, c, vals_rev rv hi, by rw [Array.toArray_toList]; exact hN⟩
  exact ⟨.ref _, _, I3, rfl, q _ (I2.hok.fresh (Nat.le_refl _))⟩
end
end N
namespace N
open PySem L2
/-- digits, the last one first -/
def rr : Nat → Nat → List Nat
  | 0, _ => []
  | k + 1, m => if m = 0 then [] else (48 + m % 10) :: rr k (m / 10)
theorem rr_len : ∀ k m, (rr k m).length ≤ k
  | 0, _ => Nat.le_refl _
  | k + 1, m => by
    unfold rr
    split
    · exact Nat.zero_le _
    · have := rr_len k (m / 10)
      rw [List.length_cons]
      omega
theorem rr_zero : ∀ k, rr k 0 = []
  | 0 => rfl
  | _ + 1 => rfl
theorem digitsFrom_is : ∀ k n, Vaarrm.digitsFrom (k + 1) n = ((48 + n % 10) :: rr k (n / 10)).reverse
  | 0, n => by
    unfold Vaarrm.digitsFrom rr
    split
    · rw [Nat.mod_eq_of_lt (by omega)]; rfl
    · rfl
  | k + 1, n => by
    unfold Vaarrm.digitsFrom
    by_cases h : n < 10
    · rw [if_pos h, Nat.div_eq_of_lt h, Nat.mod_eq_of_lt h, rr_zero]; rfl
    · rw [if_neg h, digitsFrom_is k, List.reverse_cons (a := 48 + n % 10)]
      have e : rr (k + 1) (n / 10) = (48 + n / 10 % 10) :: rr k (n / 10 / 10) := by
        rw [show rr (k + 1) (n / 10) = if n / 10 = 0 then [] else (48 + n / 10 % 10) :: rr k (n / 10 / 10) from rfl, if_neg (by omega)]
      rw [e]
theorem decimal_is (n : Nat) : Vaarrm.decimal n = ((48 + n % 10) :: rr 39 (n / 10)).reverse := digitsFrom_is 39 n
theorem decimal_len (n : Nat) : (Vaarrm.decimal n).length ≤ 40 := by
  rw [decimal_is, List.length_reverse, List.length_cons]
  have := rr_len 39 (n / 10)
  omega
theorem Bs_append (a b : List Nat) : Bs (a ++ b) = Bs a ++ Bs b := List.map_append
theorem Bs_reverse (a : List Nat) : (Bs a).reverse = Bs a.reverse := List.map_reverse.symm
end N
namespace N
open PySem L2
theorem spaced_snoc (l : List (List Nat)) (y : List Nat) : Vaarrm.spaced (l ++ [y]) = if l.length = 0 then y else Vaarrm.spaced l ++ 32 :: y := by
  cases l with
  | nil =>
    show y ++ [] = y
    rw [List.append_nil]
  | cons x r =>
    show x ++ (r ++ [y]).flatMap (fun z => 32 :: z) = (x ++ r.flatMap (fun z => 32 :: z)) ++ 32 :: y
    rw [List.flatMap_append, List.append_assoc]
    simp
theorem spaced_len (s : List Nat) : (Vaarrm.spaced (s.map Vaarrm.decimal)).length ≤ 41 * s.length := by
  have go : ∀ r : List Nat, ((r.map Vaarrm.decimal).flatMap (fun z => 32 :: z)).length ≤ 41 * r.length := fun r => by
    induction r with
    | nil => exact Nat.le_refl _
    | cons x r ih =>
      have := decimal_len x
      simp only [List.map_cons, List.flatMap_cons, List.length_append, List.length_cons]
      omega
  cases s with
  | nil => exact Nat.le_refl _
  | cons x r =>
    have h1 := go r
    have h2 := decimal_len x
    show (Vaarrm.decimal x ++ (r.map Vaarrm.decimal).flatMap (fun z => 32 :: z)).length ≤ _
    rw [List.length_append, List.length_cons]
    omega
theorem numText_len (n : Int) : (Vaarrm.numText n).length ≤ 41 := by
  unfold Vaarrm.numText
  have h1 := decimal_len n.natAbs
  have h2 := decimal_len n.toNat
  split
  · rw [List.length_cons]; omega
  · omega
mutual
/-- a value's text, whole -/
def ttext : U → List Nat
  | .num n => Vaarrm.numText n
  | .arr s l => 91 :: (Vaarrm.spaced (s.map Vaarrm.decimal) ++ (58 :: (ttextL l ++ [93])))
def ttextL : List U → List Nat
  | [] => []
  | v :: l => 32 :: (ttext v ++ ttextL l)
end
theorem ttextL_append : ∀ l m : List U, ttextL (l ++ m) = ttextL l ++ ttextL m
  | [], _ => rfl
  | v :: l, m => by
    show 32 :: (ttext v ++ ttextL (l ++ m)) = 32 :: (ttext v ++ ttextL l) ++ ttextL m
    rw [ttextL_append l m, List.cons_append, List.append_assoc]
mutual
theorem text_is : ∀ (v : U) (k : Nat), tdepth v < k → Vaarrm.textOf k v = ttext v
  | v, 0, h => absurd h (by omega)
  | .num n, k + 1, _ => rfl
  | .arr s l, k + 1, h => by
    have h' : 1 + tdepthL l < k + 1 := h
    show 91 :: (Vaarrm.spaced (s.map Vaarrm.decimal) ++ (58 :: (l.flatMap (fun v => 32 :: Vaarrm.textOf k v) ++ [93]))) = 91 :: (Vaarrm.spaced (s.map Vaarrm.decimal) ++ (58 :: (ttextL l ++ [93])))
    rw [text_isL l k (by omega)]
theorem text_isL : ∀ (l : List U) (k : Nat), tdepthL l < k → l.flatMap (fun v => 32 :: Vaarrm.textOf k v) = ttextL l
  | [], k, _ => rfl
  | v :: l, k, h => by
    have h' : max (tdepth v) (tdepthL l) < k := h
    rw [List.flatMap_cons, text_isL l k (by omega), text_is v k (by omega)]
    rfl
end
mutual
theorem ttext_len : ∀ v : U, tshapes v = true → (ttext v).length + 1 ≤ 200 * tsize v
  | .num n, _ => by
    have := numText_len n
    show (Vaarrm.numText n).length + 1 ≤ 200 * 1
    omega
  | .arr s l, h => by
    have h' : (Vaarrm.shapeOk s && tshapesL l) = true := h
    rw [Bool.and_eq_true] at h'
    have h1 := ttext_lenL l h'.2
    have h2 := spaced_len s
    have h3 : s.length ≤ 4 := by
      have := h'.1
      unfold Vaarrm.shapeOk at this
      rw [Bool.and_eq_true] at this
      exact of_decide_eq_true this.1
    show (91 :: (Vaarrm.spaced (s.map Vaarrm.decimal) ++ (58 :: (ttextL l ++ [93])))).length + 1 ≤ 200 * (1 + tsizeL l)
    simp only [List.length_cons, List.length_append, List.length_nil]
    omega
theorem ttext_lenL : ∀ l : List U, tshapesL l = true → (ttextL l).length ≤ 200 * tsizeL l
  | [], _ => Nat.le_refl _
  | v :: l, h => by
    have h' : (tshapes v && tshapesL l) = true := h
    rw [Bool.and_eq_true] at h'
    have h1 := ttext_len v h'.1
    have h2 := ttext_lenL l h'.2
    show (32 :: (ttext v ++ ttextL l)).length ≤ 200 * (tsize v + tsizeL l)
    rw [List.length_cons, List.length_append]
    omega
end
theorem ttextL_take_len {l : List U} (h : tshapesL l = true) (i : Nat) : (ttextL (l.take i)).length ≤ 200 * tsizeL l := by
  have e : ttextL l = ttextL (l.take i) ++ ttextL (l.drop i) := by rw [← ttextL_append, List.take_append_drop]
  have := ttext_lenL l h
  rw [e, List.length_append] at this
  omega
end N
namespace N
open PySem L2
/-- digits(n) -/
def spDigits : Sp := fun vs H Q _ => ∃ n : Nat, vs = [.int (n : Int)] ∧ n < 10 ^ 39 ∧ GotL Q H (Bs (Vaarrm.decimal n))
section
variable {P : Program} {w : World} {K : PySem.W.Frag} {mg : Str → Option Value} {base : Heap}
theorem sc_digits : FnScope ["n", "backwards", "rest"] ["n"] (defScope sDigits) := ⟨rfl, rfl, rfl, by decide +kernel, rfl, by decide +kernel, by decide +kernel⟩
theorem ok_digits (T : Top1 K mg "digits" sDigits ["n"]) (c_ZERO : CI mg "ZERO" 48) (b_list : mg "list" = none) (b_reversed : mg "reversed" = none) : Def P w K mg base CX0 "digits" 1 ["n"] (spDigits) := by
  refine T.ok sc_digits (fun vs H Q E h => ?_) (fun f cdv A outer s H vs Q E hr h => ?_)
  · obtain ⟨n, rfl, _⟩ := h
    rfl
  obtain ⟨n, rfl, hn, q⟩ := h
  refine ⟨_, (pss_cons (ps_set (i := 1) sc_digits.nd rfl (Or.inl rfl) (pe_lst (pa_cons (pe_op op_add (pe_ci c_ZERO) (pe_op op_mod (pv 0) pe_int)) pa_nil))) (pss_cons (ps_set (i := 2) sc_digits.nd rfl (Or.inl rfl) (pe_op op_fdiv (pv 0) pe_int)) (pss_cons (ps_while PassesOwn.never (pt_cmpR op_gt (pv 2) pe_int (nomark _)) (pss_cons (ps_expr (pe_bm PySem.F.plainAttrs_list PySem.F.slot_list_append PySem.F.type_list_append mt_append (pv 1) (pa_cons (pe_op op_add (pe_ci c_ZERO) (pe_op op_mod (pv 2) pe_int)) pa_nil))) (pss_one (ps_set (i := 2) sc_digits.nd rfl (Or.inl rfl) (pe_op op_fdiv (pv 2) pe_int))))) (pss_one (ps_ret (pe_listRev rfl rfl b_list rfl b_reversed (pv 1))))))), ?_⟩
  have ten : (0 : Int) < 10 := by decide
  have tenS : CDiv (0 : Int) 10 := ⟨by decide, by decide⟩
  refine ⟨_, rfl, _, _, rfl, rfl, ten, _, _, rfl, rfl, by show 1 ≤ sizeLine; decide, fun l hl => ?_⟩
  refine ⟨_, rfl, _, _, rfl, rfl, tenS, ?_⟩
  refine ⟨fun m σ H1 => ∃ (k : Nat) (acc : List Nat), σ = [some (.int (n : Int)), some (.ref l), some (.int (m : Int))] ∧ Same H H1 ∧ H1 l = some (.lst (Bs acc)) ∧ acc ++ rr k m = (48 + n % 10) :: rr 39 (n / 10) ∧ m < 10 ^ k, ⟨n / 10, 39, [48 + n % 10], rfl, same_new hl _, upd_same, rfl, by omega⟩, ?_⟩
  rintro m σ H1 ⟨k, acc, rfl, e1, hl1, ha, hm⟩
  have hlen := congrArg List.length ha
  rw [List.length_append, List.length_cons] at hlen
  have h39 := rr_len 39 (n / 10)
  refine ⟨_, rfl, _, _, rfl, rfl, _, rfl, ?_⟩
  by_cases h0 : m = 0
  · subst h0
    rw [rr_zero, List.append_nil] at ha
    refine itF (by decide) ⟨_, rfl, l, _, rfl, SqL.of hl1, fun p hp => q p _ (e1.free hp) (e1.trans (same_new hp _)) ?_⟩
    rw [upd_same, Bs_reverse, ha, ← decimal_is]
  · cases k with
    | zero => exact absurd hm (by rw [Nat.pow_zero]; omega)
    | succ k =>
      have er : rr (k + 1) m = (48 + m % 10) :: rr k (m / 10) := by
        rw [show rr (k + 1) m = if m = 0 then [] else (48 + m % 10) :: rr k (m / 10) from rfl, if_neg h0]
      refine itT (by omega) ⟨fun σ' H' => ∃ m', m' < m ∧ _, fun σ' H' h => h, ?_⟩
      refine ⟨_, rfl, .inl ⟨rfl, _, SqL.of hl1⟩, _, rfl, _, _, rfl, rfl, ten, _, _, rfl, rfl, l, _, _, rfl, rfl, hl1, Nat.lt_of_le_of_lt (show _ ≤ 100 by rw [Bs_len]; omega) (by decide), ?_⟩
      refine ⟨_, rfl, _, _, rfl, rfl, tenS, ?_⟩
      refine ⟨m / 10, by omega, k, acc ++ [48 + m % 10], rfl, Same.mut e1 hl, ?_, ?_, ?_⟩
      · rw [upd_same, Bs_append]; rfl
      · rw [List.append_assoc, ← ha, er]; rfl
      · rw [Nat.pow_succ] at hm
        omega
end
end N
namespace N
open PySem L2
/-- number_text(n) -/
def spNumText : Sp := fun vs H Q _ => ∃ n : Int, vs = [.int n] ∧ (-1000000000000000000 ≤ n ∧ n ≤ 1000000000000000000) ∧ GotL Q H (Bs (Vaarrm.numText n))
section
variable {P : Program} {w : World} {K : PySem.W.Frag} {mg : Str → Option Value} {base : Heap}
theorem sc_number_text : FnScope ["n"] ["n"] (defScope sNumberText) := ⟨rfl, rfl, rfl, by decide +kernel, rfl, by decide +kernel, by decide +kernel⟩
theorem ok_number_text (T : Top1 K mg "number_text" sNumberText ["n"]) (c_LOW : CI mg "LOW" 95) (D_digits : Def P w K mg base CX0 "digits" 1 ["n"] (spDigits)) : Def P w K mg base CX0 "number_text" 2 ["n"] (spNumText) := by
  refine T.ok sc_number_text (fun vs H Q E h => ?_) (fun f cdv A outer s H vs Q E hr h => ?_)
  · obtain ⟨n, rfl, _⟩ := h
    rfl
  obtain ⟨n, rfl, hn, q⟩ := h
  refine ⟨_, (pss_cons (ps_if (pt_cmpR op_lt (pv 0) pe_int (nomark _)) (pss_one (ps_ret (pe_op op_cat (pe_lst (pa_cons (pe_ci c_LOW) pa_nil)) (pe_fn D_digits (hr.mono (by decide)) pass0 (pa_cons (pe_un un_neg (pv 0)) pa_nil))))) pss_nil) (pss_one (ps_ret (pe_fn D_digits (hr.mono (by decide)) pass0 (pa_cons (pv 0) pa_nil))))), ?_⟩
  refine ⟨_, rfl, _, _, rfl, rfl, _, rfl, ?_⟩
  unfold Vaarrm.numText at q
  by_cases h0 : n < 0
  · rw [if_pos h0] at q
    have en : -n = ((n.natAbs : Nat) : Int) := by omega
    refine itT h0 ⟨by show 1 ≤ sizeLine; decide, fun l hl => ⟨_, rfl, _, rfl, ?_⟩⟩
    refine ⟨n.natAbs, by show [V.int (-n)] = _; rw [en], by omega, fun p H' hp e' hp' => ?_⟩
    have hl1 := decimal_len n.natAbs
    refine ⟨l, p, _, _, rfl, rfl, e' _ _ upd_same, hp', Nat.le_trans (show _ ≤ 100 by rw [Bs_len]; show 1 + _ ≤ 100; omega) (by decide), fun r hr => ?_⟩
    have e1 := (same_new hl (.lst [.int 95])).trans e'
    exact q r _ (e1.free hr) (e1.trans (same_new hr _)) upd_same
  · rw [if_neg h0] at q
    have en : n = ((n.toNat : Nat) : Int) := by omega
    exact itF h0 ⟨_, rfl, n.toNat, by show [V.int n] = _; rw [← en], by omega, q⟩
end
end N
namespace N
open PySem L2
/-- extents_text(extents) -/
def spExtText (K : PySem.W.Frag) : Sp := fun vs H Q _ => ∃ (e : Addr) (s : List Nat), vs = [.ref e] ∧ SqL K H e (Bs s) ∧ s.length ≤ 1000 ∧ (∀ n ∈ s, n ≤ 1000000000000000000) ∧ GotL Q H (Bs (Vaarrm.spaced (s.map Vaarrm.decimal)))
section
variable {P : Program} {w : World} {K : PySem.W.Frag} {mg : Str → Option Value} {base : Heap}
theorem sc_extents_text : FnScope ["extents", "row", "k", "extent"] ["extents"] (defScope sExtentsText) := ⟨rfl, rfl, rfl, by decide +kernel, rfl, by decide +kernel, by decide +kernel⟩
theorem ok_extents_text (T : Top1 K mg "extents_text" sExtentsText ["extents"]) (c_BLANK : CI mg "BLANK" 32) (b_enumerate : mg "enumerate" = none) (D_digits : Def P w K mg base CX0 "digits" 1 ["n"] (spDigits)) : Def P w K mg base CX0 "extents_text" 2 ["extents"] (spExtText K) := by
  refine T.ok sc_extents_text (fun vs H Q E h => ?_) (fun f cdv A outer s H vs Q E hr h => ?_)
  · obtain ⟨e, s, rfl, _⟩ := h
    rfl
  obtain ⟨e, s, rfl, hS, hz, hb, q⟩ := h
  refine ⟨_, (pss_cons (ps_set (i := 1) sc_extents_text.nd rfl (Or.inl rfl) (pe_lst pa_nil)) (pss_cons (ps_for PassesOwn.never rfl (pi_enum rfl b_enumerate (pa_cons (pv 0) pa_nil)) (pg_tup rfl (pgs_cons (pg_name (i := 2) sc_extents_text.nd rfl (Or.inl rfl)) (pgs_cons (pg_name (i := 3) sc_extents_text.nd rfl (Or.inl rfl)) pgs_nil))) (pss_cons (ps_if (pt_cmpR op_gt (pv 2) pe_int (nomark _)) (pss_one (ps_expr (pe_bm PySem.F.plainAttrs_list PySem.F.slot_list_append PySem.F.type_list_append mt_append (pv 1) (pa_cons (pe_ci c_BLANK) pa_nil)))) pss_nil) (pss_one (ps_expr (pe_bm PySem.F.plainAttrs_list PySem.F.slot_list_extend PySem.F.type_list_extend mt_extend (pv 1) (pa_cons (pe_fn D_digits (hr.mono (by decide)) pass0 (pa_cons (pv 3) pa_nil)) pa_nil)))))) (pss_one (ps_ret (pv 1))))), ?_⟩
  refine ⟨Nat.zero_le _, fun l hl => ?_⟩
  have e1 : Same H (upd H l (.lst [])) := same_new hl _
  refine ⟨_, rfl, e, _, rfl, e1.seq hS, ?_⟩
  refine for_it (walk_enum (K := K) (a := e) (xs := Bs s)) (fun i σ H' => ∃ a b, σ = [some (.ref e), some (.ref l), a, b] ∧ Same H H' ∧ H' l = some (.lst (Bs (Vaarrm.spaced ((s.take i).map Vaarrm.decimal))))) ⟨none, none, rfl, e1, upd_same⟩ (fun i σ H' _ ⟨_, _, _, e2, _⟩ => e2.seq hS) ?_ ?_
  · rintro i x σ H2 H3 hi ⟨a, b, rfl, e2, hl2⟩ ⟨T, x1, y1, rfl, hT, rfl, hx1, hy1⟩
    cases hx1
    obtain ⟨n, hn, rfl⟩ := Bs_get hy1
    have e3 := e2.trans (same_new hT (.tup [.int ((i : Nat) : Int), .int (n : Int)]))
    have hl3 : (upd H2 T (.tup [.int ((i : Nat) : Int), .int (n : Int)])) l = some (.lst (Bs (Vaarrm.spaced ((s.take i).map Vaarrm.decimal)))) := same_new hT _ _ _ hl2
    have hT3 : (upd H2 T (.tup [.int ((i : Nat) : Int), .int (n : Int)])) T = some (.tup [.int ((i : Nat) : Int), .int (n : Int)]) := upd_same
    have hlen := spaced_len (s.take i)
    have hti : (s.take i).length = i := by rw [List.length_take]; rw [Bs_len] at hi; omega
    have hdl := decimal_len n
    rw [Bs_len] at hi
    generalize upd H2 T (.tup [.int ((i : Nat) : Int), .int (n : Int)]) = H3 at *
    refine ⟨T, _, rfl, SqT.of hT3, rfl, _, _, rfl, _, _, rfl, rfl, _, rfl, _, _, rfl, rfl, _, rfl, ?_⟩
    have hn' : n < 10 ^ 39 := by
      have := hb n (List.mem_of_getElem? hn)
      omega
    have et : (s.take (i + 1)).map Vaarrm.decimal = (s.take i).map Vaarrm.decimal ++ [Vaarrm.decimal n] := by
      rw [take_more hn, List.map_append]
      rfl
    have en : ((s.take i).map Vaarrm.decimal).length = i := by rw [List.length_map, hti]
    by_cases h0 : i = 0
    · refine itF (by omega) ⟨_, rfl, .inl ⟨rfl, _, SqL.of hl3⟩, _, rfl, n, rfl, hn', fun p H4 hp e4 hp4 => ?_⟩
      refine ⟨l, p, _, _, rfl, rfl, e4 _ _ hl3, hp4, Nat.le_trans (show _ ≤ 100000 by rw [Bs_len, Bs_len]; omega) (by decide), ?_⟩
      refine ⟨_, _, rfl, Same.mut (e3.trans e4) hl, ?_⟩
      rw [upd_same, et, spaced_snoc, if_pos (by rw [en, h0])]
      subst h0
      rfl
    · refine itT (by omega) ⟨_, rfl, .inl ⟨rfl, _, SqL.of hl3⟩, l, _, _, rfl, rfl, hl3, Nat.lt_of_le_of_lt (show _ ≤ 100000 by rw [Bs_len]; omega) (by decide), ?_⟩
      have e4 : Same H (upd H3 l (.lst (Bs (Vaarrm.spaced ((s.take i).map Vaarrm.decimal)) ++ [.int 32]))) := Same.mut e3 hl
      have hl4 : (upd H3 l (.lst (Bs (Vaarrm.spaced ((s.take i).map Vaarrm.decimal)) ++ [.int 32]))) l = some (.lst (Bs (Vaarrm.spaced ((s.take i).map Vaarrm.decimal) ++ [32]))) := by
        rw [upd_same, Bs_append]
        rfl
      generalize upd H3 l (.lst (Bs (Vaarrm.spaced ((s.take i).map Vaarrm.decimal)) ++ [.int 32])) = H4 at *
      refine ⟨_, rfl, .inl ⟨rfl, _, SqL.of hl4⟩, _, rfl, n, rfl, hn', fun p H5 hp e5 hp5 => ?_⟩
      refine ⟨l, p, _, _, rfl, rfl, e5 _ _ hl4, hp5, Nat.le_trans (show _ ≤ 100000 by rw [Bs_len, Bs_len, List.length_append, List.length_singleton]; omega) (by decide), ?_⟩
      refine ⟨_, _, rfl, Same.mut (e4.trans e5) hl, ?_⟩
      rw [upd_same, et, spaced_snoc, if_neg (by rw [en]; exact h0), ← Bs_append, List.append_assoc]
      rfl
  · rintro σ H' ⟨a, b, rfl, e2, hl2⟩
    rw [Bs_len, List.take_length] at hl2
    exact ⟨_, rfl, q l _ hl e2 hl2⟩
end
end N
namespace N
open PySem L2
/-- value_text(u), less than d deep -/
def spValText (C : Addr) (d : Nat) : Sp := fun vs H Q _ => ∃ (u : V) (v : U), vs = [u] ∧ Rep C H u v ∧ tdepth v < d ∧ tshapes v = true ∧ tsize v ≤ 10000 ∧ GotL Q H (Bs (ttext v))
section
variable {P : Program} {w : World} {K : PySem.W.Frag} {mg : Str → Option Value} {base : Heap} {CArr : Addr}
theorem sc_value_text : FnScope ["u", "row", "member"] ["u"] (defScope sValueText) := ⟨rfl, rfl, rfl, by decide +kernel, rfl, by decide +kernel, by decide +kernel⟩
theorem vt_all (T : Top1 K mg "value_text" sValueText ["u"]) (c_CLOSING : CI mg "CLOSING" 93) (c_BLANK : CI mg "BLANK" 32) (c_COLON : CI mg "COLON" 58) (c_OPENING : CI mg "OPENING" 91) (F_Arr : ClF K CArr ["extents", "members"]) (D_extents_text : Def P w K mg base CX0 "extents_text" 2 ["extents"] (spExtText K)) (D_is_number : Def P w K mg base CX0 "is_number" 1 ["u"] (spIsNum CArr)) (D_number_text : Def P w K mg base CX0 "number_text" 2 ["n"] (spNumText)) : ∀ d, Def P w K mg base CX0 "value_text" (d + 3) ["u"] (spValText CArr d)
  | 0 => by
    refine T.ok sc_value_text (fun vs H Q E h => ?_) (fun f cdv A outer s H vs Q E hr h => ?_)
    · obtain ⟨u, v, rfl, _⟩ := h
      rfl
    · obtain ⟨u, v, rfl, hu, hd, _⟩ := h
      exact absurd hd (by omega)
  | d + 1 => by
    have D_value_text := vt_all T c_CLOSING c_BLANK c_COLON c_OPENING F_Arr D_extents_text D_is_number D_number_text d
    refine T.ok sc_value_text (fun vs H Q E h => ?_) (fun f cdv A outer s H vs Q E hr h => ?_)
    · obtain ⟨u, v, rfl, _⟩ := h
      rfl
    obtain ⟨u, v, rfl, hu, hd, hs, hz, q⟩ := h
    refine ⟨_, (pss_cons (ps_if (pt_val (pe_fn D_is_number (hr.mono (by omega)) pass0 (pa_cons (pv 0) pa_nil))) (pss_one (ps_ret (pe_fn D_number_text (hr.mono (by omega)) pass0 (pa_cons (pv 0) pa_nil)))) pss_nil) (pss_cons (ps_set (i := 1) sc_value_text.nd rfl (Or.inl rfl) (pe_lst (pa_cons (pe_ci c_OPENING) pa_nil))) (pss_cons (ps_expr (pe_bm PySem.F.plainAttrs_list PySem.F.slot_list_extend PySem.F.type_list_extend mt_extend (pv 1) (pa_cons (pe_fn D_extents_text (hr.mono (by omega)) pass0 (pa_cons (pe_fld (pv 0) rfl) pa_nil)) pa_nil))) (pss_cons (ps_expr (pe_bm PySem.F.plainAttrs_list PySem.F.slot_list_append PySem.F.type_list_append mt_append (pv 1) (pa_cons (pe_ci c_COLON) pa_nil))) (pss_cons (ps_for PassesOwn.never rfl (pi_list (pe_fld (pv 0) rfl)) (pg_name (i := 2) sc_value_text.nd rfl (Or.inl rfl)) (pss_cons (ps_expr (pe_bm PySem.F.plainAttrs_list PySem.F.slot_list_append PySem.F.type_list_append mt_append (pv 1) (pa_cons (pe_ci c_BLANK) pa_nil))) (pss_one (ps_expr (pe_bm PySem.F.plainAttrs_list PySem.F.slot_list_extend PySem.F.type_list_extend mt_extend (pv 1) (pa_cons (pe_fn D_value_text (hr.mono (by omega)) pass0 (pa_cons (pv 2) pa_nil)) pa_nil)))))) (pss_cons (ps_expr (pe_bm PySem.F.plainAttrs_list PySem.F.slot_list_append PySem.F.type_list_append mt_append (pv 1) (pa_cons (pe_ci c_CLOSING) pa_nil))) (pss_one (ps_ret (pv 1))))))))), ?_⟩
    refine ⟨_, rfl, u, v, rfl, hu, _, rfl, ?_⟩
    cases v with
    | num n =>
      obtain ⟨rfl, hn⟩ := hu.of_num
      exact iteT ⟨_, rfl, n, rfl, hn, q⟩
    | arr s l =>
      obtain ⟨x, dx, e, m, us, rfl, hx, he, hm, hb, hl⟩ := hu.of_arr
      have hs' : (Vaarrm.shapeOk s && tshapesL l) = true := hs
      rw [Bool.and_eq_true] at hs'
      have hd' : 1 + tdepthL l < d + 1 := hd
      have hz' : 1 + tsizeL l ≤ 10000 := hz
      have h4 : s.length ≤ 4 := by
        have := hs'.1
        unfold Vaarrm.shapeOk at this
        rw [Bool.and_eq_true] at this
        exact of_decide_eq_true this.1
      have hsl := spaced_len s
      have hlu : us.length = l.length := hl.length
      have gE := F_Arr.no "extents" (by simp)
      have gM := F_Arr.no "members" (by simp)
      refine iteF ⟨by show 1 ≤ sizeLine; decide, fun r hr0 => ?_⟩
      have e1 : Same H (upd H r (.lst [.int 91])) := same_new hr0 _
      have r1 : (upd H r (.lst [.int 91])) r = some (.lst (Bs [91])) := upd_same
      generalize upd H r (.lst [.int 91]) = H1 at *
      refine ⟨_, rfl, .inl ⟨rfl, _, SqL.of r1⟩, _, rfl, x, CArr, dx, _, _, rfl, e1 _ _ hx, F_Arr.cl, gE, arrF_ext _ _, ?_⟩
      refine ⟨e, s, rfl, SqL.of (e1 _ _ he), by omega, hb, fun p H2 hp e2 hp2 => ?_⟩
      refine ⟨r, p, _, _, rfl, rfl, e2 _ _ r1, hp2, Nat.le_trans (show _ ≤ 100000 by rw [Bs_len, Bs_len]; show 1 + _ ≤ 100000; omega) (by decide), ?_⟩
      have e3 : Same H (upd H2 r (.lst (Bs [91] ++ Bs (Vaarrm.spaced (s.map Vaarrm.decimal))))) := Same.mut (e1.trans e2) hr0
      have r3 : (upd H2 r (.lst (Bs [91] ++ Bs (Vaarrm.spaced (s.map Vaarrm.decimal))))) r = some (.lst (Bs (91 :: Vaarrm.spaced (s.map Vaarrm.decimal)))) := by
        rw [upd_same]; rfl
      generalize upd H2 r (.lst (Bs [91] ++ Bs (Vaarrm.spaced (s.map Vaarrm.decimal)))) = H3 at *
      refine ⟨_, rfl, .inl ⟨rfl, _, SqL.of r3⟩, r, _, _, rfl, rfl, r3, Nat.lt_of_le_of_lt (show _ ≤ 100000 by rw [Bs_len, List.length_cons]; omega) (by decide), ?_⟩
      have e4 := Same.mut (p := r) (o := .lst (Bs (91 :: Vaarrm.spaced (s.map Vaarrm.decimal)) ++ [.int 58])) e3 hr0
      have r4 : (upd H3 r (.lst (Bs (91 :: Vaarrm.spaced (s.map Vaarrm.decimal)) ++ [.int 58]))) r = some (.lst (Bs (91 :: (Vaarrm.spaced (s.map Vaarrm.decimal) ++ [58])))) := by
        rw [upd_same, ← List.cons_append, Bs_append]; rfl
      generalize upd H3 r (.lst (Bs (91 :: Vaarrm.spaced (s.map Vaarrm.decimal)) ++ [.int 58])) = H4 at *
      refine ⟨_, rfl, x, CArr, dx, _, _, rfl, e4 _ _ hx, F_Arr.cl, gM, arrF_mem _ _, m, rfl, ⟨_, SqL.of (e4 _ _ hm)⟩, ?_⟩
      refine for_list (K := K) (a := m) (xs := us) (fun i σ H' => ∃ b, σ = [some (.ref x), some (.ref r), b] ∧ Same H H' ∧ H' r = some (.lst (Bs (91 :: (Vaarrm.spaced (s.map Vaarrm.decimal) ++ (58 :: ttextL (l.take i))))))) ⟨none, rfl, e4, r4⟩ (fun i σ H' _ ⟨_, _, e5, _⟩ => SqL.of (e5 _ _ hm)) ?_ ?_
      · rintro i y σ H5 hi ⟨b, rfl, e5, r5⟩
        obtain ⟨vy, hvy, hry⟩ := hl.get hi
        have hT := ttextL_take_len hs'.2 i
        have hT2 := ttext_len vy (tshapesL_get hs'.2 hvy)
        have hT3 := tsizeL_get hvy
        refine ⟨_, rfl, .inl ⟨rfl, _, SqL.of r5⟩, r, _, _, rfl, rfl, r5, Nat.lt_of_le_of_lt (show _ ≤ 10000000 by rw [Bs_len, List.length_cons, List.length_append, List.length_cons]; omega) (by decide), ?_⟩
        have e6 := Same.mut (p := r) (o := .lst (Bs (91 :: (Vaarrm.spaced (s.map Vaarrm.decimal) ++ (58 :: ttextL (l.take i)))) ++ [.int 32])) e5 hr0
        have r6 : (upd H5 r (.lst (Bs (91 :: (Vaarrm.spaced (s.map Vaarrm.decimal) ++ (58 :: ttextL (l.take i)))) ++ [.int 32]))) r = some (.lst (Bs (91 :: (Vaarrm.spaced (s.map Vaarrm.decimal) ++ (58 :: (ttextL (l.take i) ++ [32])))))) := by
          rw [upd_same]
          unfold Bs
          simp
        generalize upd H5 r (.lst (Bs (91 :: (Vaarrm.spaced (s.map Vaarrm.decimal) ++ (58 :: ttextL (l.take i)))) ++ [.int 32])) = H6 at *
        refine ⟨_, rfl, .inl ⟨rfl, _, SqL.of r6⟩, _, rfl, y, vy, rfl, hry.mono e6, ?_, tshapesL_get hs'.2 hvy, by omega, fun p H7 hp e7 hp7 => ?_⟩
        · have := tdepthL_get hvy
          omega
        refine ⟨r, p, _, _, rfl, rfl, e7 _ _ r6, hp7, Nat.le_trans (show _ ≤ 10000000 by rw [Bs_len, Bs_len, List.length_cons, List.length_append, List.length_cons, List.length_append, List.length_singleton]; omega) (by decide), ?_⟩
        refine ⟨some y, rfl, Same.mut (e6.trans e7) hr0, ?_⟩
        rw [upd_same, take_more hvy, ttextL_append, ← Bs_append]
        congr 3
        simp [ttextL]
      · rintro σ H5 ⟨b, rfl, e5, r5⟩
        rw [hlu, List.take_length] at r5
        have hT := ttext_lenL l hs'.2
        refine ⟨_, rfl, .inl ⟨rfl, _, SqL.of r5⟩, r, _, _, rfl, rfl, r5, Nat.lt_of_le_of_lt (show _ ≤ 10000000 by rw [Bs_len, List.length_cons, List.length_append, List.length_cons]; omega) (by decide), ?_⟩
        refine ⟨_, rfl, q r _ hr0 (Same.mut e5 hr0) ?_⟩
        rw [upd_same]
        have ee : ttext (.arr s l) = 91 :: (Vaarrm.spaced (s.map Vaarrm.decimal) ++ (58 :: (ttextL l ++ [93]))) := rfl
        rw [ee]
        unfold Bs
        simp
theorem ok_value_text (T : Top1 K mg "value_text" sValueText ["u"]) (c_CLOSING : CI mg "CLOSING" 93) (c_BLANK : CI mg "BLANK" 32) (c_COLON : CI mg "COLON" 58) (c_OPENING : CI mg "OPENING" 91) (F_Arr : ClF K CArr ["extents", "members"]) (D_extents_text : Def P w K mg base CX0 "extents_text" 2 ["extents"] (spExtText K)) (D_is_number : Def P w K mg base CX0 "is_number" 1 ["u"] (spIsNum CArr)) (D_number_text : Def P w K mg base CX0 "number_text" 2 ["n"] (spNumText)) : Def P w K mg base CX0 "value_text" 12 ["u"] (spValText CArr 9) := vt_all T c_CLOSING c_BLANK c_COLON c_OPENING F_Arr D_extents_text D_is_number D_number_text 9
end
end N
namespace N
open PySem L2
/-- value_answer(u) -/
def spValAns (C CR : Addr) : Sp := fun vs H Q E => ∃ (u : V) (v : U), vs = [u] ∧ Rep C H u v ∧ tsize v ≤ 1000000 ∧ (outOk v = true → GotL Q H (.int 0 :: Bs (ttext v))) ∧ (outOk v = false → Fails CR E H (-5))
section
variable {P : Program} {w : World} {K : PySem.W.Frag} {mg : Str → Option Value} {base : Heap} {CArr CRef fRef : Addr}
theorem sc_value_answer : FnScope ["u"] ["u"] (defScope sValueAnswer) := ⟨rfl, rfl, rfl, by decide +kernel, rfl, by decide +kernel, by decide +kernel⟩
theorem ok_value_answer (T : Top1 K mg "value_answer" sValueAnswer ["u"]) (D_value_text : Def P w K mg base CX0 "value_text" 12 ["u"] (spValText CArr 9)) (D_come_out : Def P w K mg base (L2.CX P w) "come_out" 4 ["u"] (spComeOut CArr CRef)) : Def P w K mg base (L2.CX P w) "value_answer" 13 ["u"] (spValAns CArr CRef) := by
  refine T.okX sc_value_answer (fun vs H Q E h => ?_) (fun f cdv A outer s H vs Q E hr h => ?_)
  · obtain ⟨u, v, rfl, _⟩ := h
    rfl
  obtain ⟨u, v, rfl, hu, hz, q, qf⟩ := h
  refine ⟨_, (pss_one (ps_ret (pe_op op_cat (pe_lst (pa_cons pe_int pa_nil)) (pe_fn D_value_text (hr.mono (by decide)) pass0 (pa_cons (pe_fn D_come_out (hr.mono (by decide)) (passes_call (takes_of rfl rfl rfl rfl) (fun _ _ _ _ h => h)) (pa_cons (pv 0) pa_nil)) pa_nil))))), ?_⟩
  refine ⟨by show 1 ≤ sizeLine; decide, fun l hl => ?_⟩
  have e1 : Same H (upd H l (.lst [.int 0])) := same_new hl _
  refine ⟨_, rfl, u, v, rfl, hu.mono e1, hz, fun ho H2 e2 => ?_, fun ho => (qf ho).back e1⟩
  have ho' : (tlim v && tshapes v) = true := ho
  rw [Bool.and_eq_true] at ho'
  have hlim := of_decide_eq_true (show decide (tsize v ≤ 512 ∧ tdepth v ≤ 8) = true from ho'.1)
  refine ⟨u, v, rfl, (hu.mono e1).mono e2, by omega, ho'.2, by omega, fun p H3 hp e3 hp3 => ?_⟩
  have hT := ttext_len v ho'.2
  refine ⟨l, p, _, _, rfl, rfl, e3 _ _ (e2 _ _ upd_same), hp3, Nat.le_trans (show _ ≤ 1000000 by rw [Bs_len]; show 1 + _ ≤ 1000000; omega) (by decide), fun r hr0 => ?_⟩
  have e4 := (e1.trans e2).trans e3
  exact q ho r _ (e4.free hr0) (e4.trans (same_new hr0 _)) upd_same
end
end N
namespace N
open PySem L2
/-! ### the desk: one text, what is due -/
/-- a def of one text that answers the list told by f -/
def spOne (K : PySem.W.Frag) (f : List Nat → List Int) : Sp := fun vs H Q _ => ∃ (a : Addr) (t : List Nat), vs = [.ref a] ∧ SqL K H a (Bs t) ∧ t.length ≤ 20000 ∧ ∀ (H' : Hp) (p : Addr), H' p = some (.lst ((f t).map V.int)) → Q (.ref p) H'
/-- what is due of one text -/
def due1 (f : Nat) (t : List Nat) : List Int := VaarrmNeutral.encode (Vaarrm.answer (.one f t))
theorem due1_ok {f : Nat} {t : List Nat} {v : Vaarrm.V} (h : Vaarrm.read t = .ok v) : due1 f t = VaarrmNeutral.encode (Vaarrm.oneAnswer f v) := by
  show VaarrmNeutral.encode (match Vaarrm.read t with | .error k => Vaarrm.no k | .ok v => Vaarrm.oneAnswer f v) = _
  rw [h]
theorem due1_no {f : Nat} {t : List Nat} {n : Int} (h : Vaarrm.read t = .error n) : due1 f t = [n] := by
  show VaarrmNeutral.encode (match Vaarrm.read t with | .error k => Vaarrm.no k | .ok v => Vaarrm.oneAnswer f v) = _
  rw [h]
  rfl
/-- what is due where a value or a refusal comes out -/
def dueG (r : Except Int Vaarrm.V) : List Int := VaarrmNeutral.encode (Vaarrm.given r)
theorem dueG_no (n : Int) : dueG (.error n) = [n] := rfl
/-- what is due of two texts -/
def due2 (f : Nat) (t u : List Nat) : List Int := VaarrmNeutral.encode (Vaarrm.answer (.two f t u))
/-- a def of two texts that answers the list told by f -/
def spTwo (K : PySem.W.Frag) (f : List Nat → List Nat → List Int) : Sp := fun vs H Q _ => ∃ (a b : Addr) (t u : List Nat), vs = [.ref a, .ref b] ∧ SqL K H a (Bs t) ∧ SqL K H b (Bs u) ∧ t.length ≤ 20000 ∧ u.length ≤ 20000 ∧ ∀ (H' : Hp) (p : Addr), H' p = some (.lst ((f t u).map V.int)) → Q (.ref p) H'
theorem due2_is (f : Nat) (t u : List Nat) : due2 f t u = VaarrmNeutral.encode (match Vaarrm.read t with | .error k => Vaarrm.no k | .ok v => match Vaarrm.read u with | .error k => Vaarrm.no k | .ok w => Vaarrm.twoAnswer f v w) := rfl
theorem due2_ok {f : Nat} {t u : List Nat} {v w : Vaarrm.V} (h : Vaarrm.read t = .ok v) (h2 : Vaarrm.read u = .ok w) : due2 f t u = VaarrmNeutral.encode (Vaarrm.twoAnswer f v w) := by rw [due2_is, h, h2]
theorem due2_no1 {f : Nat} {t u : List Nat} {n : Int} (h : Vaarrm.read t = .error n) : due2 f t u = [n] := by
  rw [due2_is, h]
  rfl
theorem due2_no2 {f : Nat} {t u : List Nat} {v : Vaarrm.V} {n : Int} (h : Vaarrm.read t = .ok v) (h2 : Vaarrm.read u = .error n) : due2 f t u = [n] := by
  rw [due2_is, h, h2]
  rfl
/-- a def of a number and a text -/
def spKOne (K : PySem.W.Frag) (f : Int → List Nat → List Int) : Sp := fun vs H Q _ => ∃ (k : Int) (a : Addr) (t : List Nat), vs = [.int k, .ref a] ∧ -1000000000000000000 ≤ k ∧ k ≤ 1000000000000000000 ∧ SqL K H a (Bs t) ∧ t.length ≤ 20000 ∧ ∀ (H' : Hp) (p : Addr), H' p = some (.lst ((f k t).map V.int)) → Q (.ref p) H'
/-- a def of a text and numbers -/
def spOneL (K : PySem.W.Frag) (f : List Nat → List Int → List Int) : Sp := fun vs H Q _ => ∃ (a b : Addr) (t : List Nat) (ns : List Int), vs = [.ref a, .ref b] ∧ SqL K H a (Bs t) ∧ SqL K H b (ns.map V.int) ∧ t.length ≤ 20000 ∧ ns.length ≤ 2000 ∧ (∀ n ∈ ns, -1000000000000000000 ≤ n ∧ n ≤ 1000000000000000000) ∧ ∀ (H' : Hp) (p : Addr), H' p = some (.lst ((f t ns).map V.int)) → Q (.ref p) H'
/-- a def of a text, numbers and a text -/
def spOneLOne (K : PySem.W.Frag) (f : List Nat → List Int → List Nat → List Int) : Sp := fun vs H Q _ => ∃ (a b c : Addr) (t : List Nat) (ns : List Int) (u : List Nat), vs = [.ref a, .ref b, .ref c] ∧ SqL K H a (Bs t) ∧ SqL K H b (ns.map V.int) ∧ SqL K H c (Bs u) ∧ t.length ≤ 20000 ∧ ns.length ≤ 2000 ∧ (∀ n ∈ ns, -1000000000000000000 ≤ n ∧ n ≤ 1000000000000000000) ∧ u.length ≤ 20000 ∧ ∀ (H' : Hp) (p : Addr), H' p = some (.lst ((f t ns u).map V.int)) → Q (.ref p) H'
/-- a def of a number and two texts -/
def spKTwo (K : PySem.W.Frag) (f : Int → List Nat → List Nat → List Int) : Sp := fun vs H Q _ => ∃ (k : Int) (a b : Addr) (t u : List Nat), vs = [.int k, .ref a, .ref b] ∧ -1000000000000000000 ≤ k ∧ k ≤ 1000000000000000000 ∧ SqL K H a (Bs t) ∧ SqL K H b (Bs u) ∧ t.length ≤ 20000 ∧ u.length ≤ 20000 ∧ ∀ (H' : Hp) (p : Addr), H' p = some (.lst ((f k t u).map V.int)) → Q (.ref p) H'
/-- a def of a number and numbers -/
def spKL (K : PySem.W.Frag) (f : Int → List Int → List Int) : Sp := fun vs H Q _ => ∃ (k : Int) (b : Addr) (ns : List Int), vs = [.int k, .ref b] ∧ -1000000000000000000 ≤ k ∧ k ≤ 1000000000000000000 ∧ SqL K H b (ns.map V.int) ∧ ns.length ≤ 2000 ∧ (∀ n ∈ ns, -1000000000000000000 ≤ n ∧ n ≤ 1000000000000000000) ∧ ∀ (H' : Hp) (p : Addr), H' p = some (.lst ((f k ns).map V.int)) → Q (.ref p) H'
/-- what is due of a call -/
def dueC (c : Vaarrm.Call) : List Int := VaarrmNeutral.encode (Vaarrm.answer c)
def dueE (k : Int) (t : List Nat) : List Int := dueC (.each k t)
def dueP1 (k : Int) (t : List Nat) : List Int := dueC (.pervade1 k t)
def dueP2 (k : Int) (t u : List Nat) : List Int := dueC (.pervade k t u)
def duePick (t : List Nat) (p : List Int) : List Int := dueC (.pick t p)
def dueRep (t : List Nat) (p : List Int) (u : List Nat) : List Int := dueC (.replace t p u)
def duePack (t : List Nat) (l : List Int) : List Int := dueC (.pack t l)
def dueFlat (d : Int) (t : List Nat) : List Int := dueC (.flat d t)
def dueUn (d : Int) (l : List Int) : List Int := dueC (.unflat d l)
end N
namespace N
open PySem L2
theorem dueG_ok {v : U} (h : outOk v = true) : dueG (.ok v) = 0 :: (ttext v).map fun (n : Nat) => (n : Int) := by
  have h' : (tlim v && tshapes v) = true := h
  rw [Bool.and_eq_true] at h'
  have hlim := of_decide_eq_true (show decide (tsize v ≤ 512 ∧ tdepth v ≤ 8) = true from h'.1)
  show VaarrmNeutral.encode (if Vaarrm.goodShapes 12 v = true ∧ Vaarrm.within 12 v = true then Vaarrm.told (Vaarrm.ints (Vaarrm.textOf 12 v)) else Vaarrm.no (-5)) = _
  rw [shapes_is v 12 (by omega), within_is v 12 (.inr (by decide)), if_pos ⟨h'.2, h'.1⟩, text_is v 12 (by omega)]
  rfl
theorem dueG_lim {v : U} (h : outOk v = false) : dueG (.ok v) = [-5] := by
  have h' : (tlim v && tshapes v) = false := h
  show VaarrmNeutral.encode (if Vaarrm.goodShapes 12 v = true ∧ Vaarrm.within 12 v = true then Vaarrm.told (Vaarrm.ints (Vaarrm.textOf 12 v)) else Vaarrm.no (-5)) = _
  rw [within_is v 12 (.inr (by decide)), if_neg]
  · rfl
  · rintro ⟨a, b⟩
    have hlim := of_decide_eq_true (show decide (tsize v ≤ 512 ∧ tdepth v ≤ 8) = true from b)
    rw [shapes_is v 12 (by omega)] at a
    rw [a, b] at h'
    cases h'
theorem dueG_list {v : U} (h : outOk v = true) : (dueG (.ok v)).map V.int = .int 0 :: Bs (ttext v) := by
  rw [dueG_ok h, List.map_cons, Bs_map]
end N
namespace N
open PySem L2
/-- the answer over a part of the heap: a value or a refusal -/
def OutG (C CR : Addr) (Q : VK) (E : XK) (H Hf : Hp) : Except Int U → Prop
  | .ok w => GotV C Q H Hf w
  | .error n => Fails CR E H n
theorem reps_nats {C : Addr} {H : Hp} : ∀ {s : List Nat}, (∀ n ∈ s, n ≤ 1000000000000000000) → Reps C H (Bs s) (Vaarrm.nats s)
  | [], _ => .nil
  | n :: s, h => .cons (.num (n : Int) (by have := h n List.mem_cons_self; omega)) (reps_nats fun m hm => h m (List.mem_cons_of_mem _ hm))
theorem Rep.ext_le {C : Addr} {H : Hp} {u : V} {v : U} (h : Rep C H u v) : ∀ n ∈ Vaarrm.shapeOf v, n ≤ 1000000000000000000 := by
  cases h with
  | num n h => exact fun n hn => absurd hn (by simp [Vaarrm.shapeOf])
  | arr hx he hm hb hl => exact hb
theorem workAll_snoc {A B : Type} (f : A → Except Int B) (x : A) : ∀ l : List A, Vaarrm.workAll f (l ++ [x]) = match Vaarrm.workAll f l with
    | .error k => .error k
    | .ok r => match f x with
      | .error k => .error k
      | .ok y => .ok (r ++ [y])
  | [] => by
    show (match f x with | .error k => Except.error k | .ok y => .ok [y]) = match f x with | .error k => Except.error k | .ok y => .ok ([] ++ [y])
    cases f x <;> rfl
  | a :: l => by
    show (match f a with | .error k => Except.error k | .ok y => match Vaarrm.workAll f (l ++ [x]) with | .error k => .error k | .ok r => .ok (y :: r)) = match (match f a with | .error k => Except.error k | .ok y => match Vaarrm.workAll f l with | .error k => .error k | .ok r => .ok (y :: r)) with | .error k => Except.error k | .ok r => match f x with | .error k => .error k | .ok y => .ok (r ++ [y])
    rw [workAll_snoc f x l]
    cases f a with
    | error k => rfl
    | ok y =>
      cases Vaarrm.workAll f l with
      | error k => rfl
      | ok r => cases f x <;> rfl
theorem workAll_bad {A B : Type} (f : A → Except Int B) (n : Int) : ∀ (l : List A) (i : Nat), Vaarrm.workAll f (l.take i) = .error n → Vaarrm.workAll f l = .error n
  | [], i, h => by rw [List.take_nil] at h; exact h
  | a :: l, 0, h => by cases h
  | a :: l, i + 1, h => by
    have h : (match f a with | .error k => Except.error k | .ok y => match Vaarrm.workAll f (l.take i) with | .error k => .error k | .ok r => .ok (y :: r)) = .error n := h
    show (match f a with | .error k => Except.error k | .ok y => match Vaarrm.workAll f l with | .error k => .error k | .ok r => .ok (y :: r)) = .error n
    cases hf : f a with
    | error k => rw [hf] at h; exact h
    | ok y =>
      rw [hf] at h
      dsimp only at h ⊢
      cases hw : Vaarrm.workAll f (l.take i) with
      | error k =>
        rw [hw] at h
        have e : k = n := by injection h
        rw [workAll_bad f k l i hw, e]
      | ok r => rw [hw] at h; cases h
theorem workAll_len {A B : Type} (f : A → Except Int B) : ∀ (l : List A) (r : List B), Vaarrm.workAll f l = .ok r → r.length = l.length
  | [], r, h => by rw [← Except.ok.inj h]; rfl
  | a :: l, r, h => by
    have h : (match f a with | .error k => Except.error k | .ok y => match Vaarrm.workAll f l with | .error k => .error k | .ok r => .ok (y :: r)) = .ok r := h
    cases hf : f a with
    | error k => rw [hf] at h; cases h
    | ok y =>
      rw [hf] at h
      dsimp only at h
      cases hw : Vaarrm.workAll f l with
      | error k => rw [hw] at h; cases h
      | ok r' =>
        rw [hw] at h
        rw [← Except.ok.inj h, List.length_cons, List.length_cons, workAll_len f l r' hw]
theorem workAll_cons {A B : Type} (f : A → Except Int B) (a : A) (l : List A) : Vaarrm.workAll f (a :: l) = match f a with
    | .error k => .error k
    | .ok y => match Vaarrm.workAll f l with
      | .error k => .error k
      | .ok r => .ok (y :: r) := rfl
end N
namespace N
/-! ### Plain Lean: work all the way down on two values -/
theorem rank0 {v : U} (h : Vaarrm.rank v = 0) : Vaarrm.shapeOf v = [] := List.eq_nil_of_length_eq_zero h
theorem items_one {v : U} (hw : wf v = true) (h : Vaarrm.rank v = 0) : ∃ x, Vaarrm.itemsOf v = [x] := by
  cases v with
  | num n => exact ⟨_, rfl⟩
  | arr s l =>
    have hs : s = [] := rank0 h
    subst hs
    obtain ⟨_, h1, _, _⟩ := wf_arr hw
    match l, h1 with
    | [x], _ => exact ⟨x, rfl⟩
theorem items_len {v : U} (hw : wf v = true) : (Vaarrm.itemsOf v).length = Vaarrm.product (Vaarrm.shapeOf v) := by
  cases v with
  | num n => rfl
  | arr s l =>
    obtain ⟨_, h1, _, _⟩ := wf_arr hw
    exact h1
/-- the shape of what comes of two values -/
def shS (v w : U) : List Nat := if Vaarrm.rank v = 0 then Vaarrm.shapeOf w else Vaarrm.shapeOf v
/-- shapes that don't go together -/
def Unl (v w : U) : Prop := Vaarrm.rank v ≠ 0 ∧ Vaarrm.rank w ≠ 0 ∧ Vaarrm.shapeOf v ≠ Vaarrm.shapeOf w
instance (v w : U) : Decidable (Unl v w) := inferInstanceAs (Decidable (_ ∧ _ ∧ _))
/-- so many items of a value -/
def sprd (v : U) (m : Nat) : List U := if Vaarrm.rank v = 0 then List.replicate m ((Vaarrm.itemsOf v).headD (.num 0)) else Vaarrm.itemsOf v
theorem zip_rep_l {α β : Type} (x : α) : ∀ l : List β, (List.replicate l.length x).zip l = l.map fun b => (x, b)
  | [] => rfl
  | b :: l => by
    rw [List.length_cons, List.replicate_succ, List.zip_cons_cons, zip_rep_l x l]
    rfl
theorem zip_rep_r {α β : Type} (x : β) : ∀ l : List α, l.zip (List.replicate l.length x) = l.map fun a => (a, x)
  | [] => rfl
  | b :: l => by
    rw [List.length_cons, List.replicate_succ, List.zip_cons_cons, zip_rep_r x l]
    rfl
theorem sprd_len {v w : U} (hv : wf v = true) (hw : wf w = true) (hn : ¬ Unl v w) : (sprd v (Vaarrm.product (shS v w))).length = Vaarrm.product (shS v w) ∧ (sprd w (Vaarrm.product (shS v w))).length = Vaarrm.product (shS v w) := by
  have lv := items_len hv
  have lw := items_len hw
  unfold sprd shS
  by_cases h1 : Vaarrm.rank v = 0
  · rw [if_pos h1, if_pos h1]
    refine ⟨List.length_replicate, ?_⟩
    by_cases h2 : Vaarrm.rank w = 0
    · rw [if_pos h2]
      exact List.length_replicate
    · rw [if_neg h2]
      exact lw
  · rw [if_neg h1, if_neg h1]
    refine ⟨lv, ?_⟩
    by_cases h2 : Vaarrm.rank w = 0
    · rw [if_pos h2]
      exact List.length_replicate
    · rw [if_neg h2]
      have e : Vaarrm.shapeOf v = Vaarrm.shapeOf w := Decidable.byContradiction fun z => hn ⟨h1, h2, z⟩
      rw [e]
      exact lw
theorem paired_is {v w : U} (hv : wf v = true) (hw : wf w = true) : Vaarrm.paired v w = (sprd v (Vaarrm.product (shS v w))).zip (sprd w (Vaarrm.product (shS v w))) := by
  have lv := items_len hv
  have lw := items_len hw
  unfold Vaarrm.paired sprd shS
  by_cases h1 : Vaarrm.rank v = 0
  · rw [if_pos h1, if_pos h1, if_pos h1]
    by_cases h2 : Vaarrm.rank w = 0
    · rw [if_pos h2]
      obtain ⟨x, hx⟩ := items_one hw h2
      rw [rank0 h2, hx]
      rfl
    · rw [if_neg h2, ← lw]
      exact (zip_rep_l _ _).symm
  · rw [if_neg h1, if_neg h1, if_neg h1]
    by_cases h2 : Vaarrm.rank w = 0
    · rw [if_pos h2, if_pos h2, ← lv]
      exact (zip_rep_r _ _).symm
    · rw [if_neg h2, if_neg h2]
/-- each thing of so many items is an item -/
theorem sprd_mem {v : U} (hw : wf v = true) {m i : Nat} {x : U} (h : (sprd v m)[i]? = some x) : ∃ j : Nat, (Vaarrm.itemsOf v)[j]? = some x := by
  unfold sprd at h
  by_cases h1 : Vaarrm.rank v = 0
  · rw [if_pos h1] at h
    obtain ⟨y, hy⟩ := items_one hw h1
    rw [hy] at h ⊢
    refine ⟨0, ?_⟩
    have h2 := List.mem_of_getElem? h
    rw [(List.mem_replicate.mp h2).2]
    rfl
  · rw [if_neg h1] at h
    exact ⟨i, h⟩
theorem pervade_nums (k d : Nat) (a b : Int) : Vaarrm.pervade k (d + 1) (.num a) (.num b) = Vaarrm.twoOf k a b := rfl
theorem pervade_is (k d : Nat) (v w : U) (h : Vaarrm.isNum v = false ∨ Vaarrm.isNum w = false) : Vaarrm.pervade k (d + 1) v w = if Unl v w then .error (-4) else match Vaarrm.workAll (fun (p : U × U) => Vaarrm.pervade k d p.1 p.2) (Vaarrm.paired v w) with
    | .error e => .error e
    | .ok l => .ok (Vaarrm.made (shS v w) l) := by
  cases v with
  | num a =>
    cases w with
    | num b => rcases h with h | h <;> cases h
    | arr t m => rfl
  | arr s l => rfl
theorem twoOf_num {k : Nat} {a b : Int} {x : U} (h : Vaarrm.twoOf k a b = .ok x) : tsize x = 1 := by
  have hb : ∀ n : Int, Vaarrm.bounded n = .ok x → tsize x = 1 := fun n h => by
    unfold Vaarrm.bounded at h
    split at h
    · rw [← Except.ok.inj h]; rfl
    · cases h
  unfold Vaarrm.twoOf at h
  split at h
  · exact hb _ h
  · exact hb _ h
  · exact hb _ h
  · rw [← Except.ok.inj h]; rfl
  · rw [← Except.ok.inj h]; rfl
/-- sums of products -/
def psum : List (U × U) → Nat
  | [] => 0
  | p :: l => tsize p.1 * tsize p.2 + psum l
theorem psum_l (x : U) : ∀ l : List U, psum (l.map fun b => (x, b)) = tsize x * tsizeL l
  | [] => rfl
  | b :: l => by
    show tsize x * tsize b + psum (l.map fun b => (x, b)) = tsize x * (tsize b + tsizeL l)
    rw [psum_l x l, Nat.mul_add]
theorem psum_r (x : U) : ∀ l : List U, psum (l.map fun a => (a, x)) = tsizeL l * tsize x
  | [] => by
    show 0 = 0 * tsize x
    omega
  | b :: l => by
    show tsize b * tsize x + psum (l.map fun a => (a, x)) = (tsize b + tsizeL l) * tsize x
    rw [psum_r x l, Nat.add_mul]
theorem psum_zip : ∀ l m : List U, psum (l.zip m) ≤ tsizeL l * tsizeL m
  | [], m => by
    rw [List.zip_nil_left]
    exact Nat.zero_le _
  | a :: l, [] => Nat.zero_le _
  | a :: l, b :: m => by
    have h := psum_zip l m
    show tsize a * tsize b + psum (l.zip m) ≤ (tsize a + tsizeL l) * (tsize b + tsizeL m)
    rw [Nat.add_mul, Nat.mul_add, Nat.mul_add]
    omega
theorem workAll_psum {f : U × U → Except Int U} : ∀ (l : List (U × U)) (r : List U), (∀ (i : Nat) (p : U × U) (x : U), l[i]? = some p → f p = .ok x → tsize x ≤ tsize p.1 * tsize p.2) → Vaarrm.workAll f l = .ok r → tsizeL r ≤ psum l
  | [], r, _, h => by
    rw [← Except.ok.inj h]
    exact Nat.zero_le _
  | a :: l, r, hf, h => by
    rw [workAll_cons] at h
    cases ha : f a with
    | error k => rw [ha] at h; cases h
    | ok y =>
      rw [ha] at h
      dsimp only at h
      cases hw : Vaarrm.workAll f l with
      | error k => rw [hw] at h; cases h
      | ok r' =>
        rw [hw] at h
        have h1 := hf 0 a y rfl ha
        have h2 := workAll_psum l r' (fun i x y hi => hf (i + 1) x y hi) hw
        rw [← Except.ok.inj h]
        show tsize y + tsizeL r' ≤ tsize a.1 * tsize a.2 + psum l
        omega
theorem head_size (v : U) : tsize ((Vaarrm.itemsOf v).headD (.num 0)) ≤ tsize v := by
  have his := items_size v
  have hp := tsize_pos v
  cases hl : Vaarrm.itemsOf v with
  | nil =>
    show 1 ≤ _
    omega
  | cons a l =>
    rw [hl] at his
    have his : tsize a + tsizeL l ≤ tsize v := his
    show tsize a ≤ _
    omega
/-- an array is one more than its items -/
theorem arr_items {v : U} (h : Vaarrm.isNum v = false) : tsize v = 1 + tsizeL (Vaarrm.itemsOf v) := by
  cases v with
  | num n => cases h
  | arr s l => rfl
theorem paired_size {v w : U} (wv : wf v = true) (h : Vaarrm.isNum v = false ∨ Vaarrm.isNum w = false) : 1 + psum (Vaarrm.paired v w) ≤ tsize v * tsize w := by
  have pv := tsize_pos v
  have pw := tsize_pos w
  have iv := items_size v
  have iw := items_size w
  have hv := head_size v
  have hw := head_size w
  have nr : ∀ u : U, Vaarrm.isNum u = true → Vaarrm.rank u = 0 := fun u h => by
    cases u with
    | num n => rfl
    | arr s l => cases h
  have nz : ∀ u : U, Vaarrm.rank u ≠ 0 → Vaarrm.isNum u = false := fun u h => by
    cases hu : Vaarrm.isNum u with
    | false => rfl
    | true => exact absurd (nr u hu) h
  have num1 : ∀ u : U, Vaarrm.isNum u = true → tsize u = 1 := fun u h => by
    cases u with
    | num n => rfl
    | arr s l => cases h
  -- x at most a, many of them b less one; or one less than a and at most b
  have mulb : ∀ {x a y b : Nat}, x ≤ a → y + 1 ≤ b → 0 < a → 1 + x * y ≤ a * b := fun {x a y b} h1 h2 h3 => by
    have m1 := Nat.mul_le_mul h1 (Nat.le_refl y)
    have m2 := Nat.mul_le_mul (Nat.le_refl a) h2
    rw [Nat.mul_add, Nat.mul_one] at m2
    omega
  unfold Vaarrm.paired
  by_cases h1 : Vaarrm.rank v = 0
  · rw [if_pos h1, psum_l]
    cases hwn : Vaarrm.isNum w with
    | false =>
      have e := arr_items hwn
      exact mulb hv (by omega) pv
    | true =>
      have hvn : Vaarrm.isNum v = false := h.resolve_right (by rw [hwn]; decide)
      have e1 := num1 w hwn
      have e := arr_items hvn
      have h5 : tsize ((Vaarrm.itemsOf v).headD (.num 0)) + 1 ≤ tsize v := by
        obtain ⟨a, hl⟩ := items_one wv h1
        rw [hl] at e ⊢
        have e : tsize v = 1 + (tsize a + 0) := e
        show tsize a + 1 ≤ _
        omega
      have := mulb (x := tsizeL (Vaarrm.itemsOf w)) (a := tsize w) iw h5 pw
      rw [Nat.mul_comm, Nat.mul_comm (tsize v)]
      exact this
  · rw [if_neg h1]
    have e := arr_items (nz v h1)
    by_cases h2 : Vaarrm.rank w = 0
    · rw [if_pos h2, psum_r]
      have := mulb (x := tsize ((Vaarrm.itemsOf w).headD (.num 0))) (a := tsize w) hw (show tsizeL (Vaarrm.itemsOf v) + 1 ≤ tsize v by omega) pw
      rw [Nat.mul_comm, Nat.mul_comm (tsize v)]
      exact this
    · rw [if_neg h2]
      have e2 := arr_items (nz w h2)
      have h3 := psum_zip (Vaarrm.itemsOf v) (Vaarrm.itemsOf w)
      have := mulb (x := tsizeL (Vaarrm.itemsOf v)) (a := tsize v) (by omega) (show tsizeL (Vaarrm.itemsOf w) + 1 ≤ tsize w by omega) pv
      omega
theorem paired_mem {v w : U} (hv : wf v = true) (hw : wf w = true) {i : Nat} {p : U × U} (h : (Vaarrm.paired v w)[i]? = some p) : (∃ j : Nat, (Vaarrm.itemsOf v)[j]? = some p.1) ∧ ∃ j : Nat, (Vaarrm.itemsOf w)[j]? = some p.2 := by
  rw [paired_is hv hw] at h
  obtain ⟨a, b⟩ := List.getElem?_zip_eq_some.mp h
  exact ⟨sprd_mem hv a, sprd_mem hw b⟩
theorem pervade_size (k : Nat) : ∀ (d : Nat) (v w x : U), wf v = true → wf w = true → Vaarrm.pervade k d v w = .ok x → tsize x ≤ tsize v * tsize w
  | 0, _, _, _, _, _, h => by cases h
  | d + 1, v, w, x, hv, hw, h => by
    by_cases hn : Vaarrm.isNum v = false ∨ Vaarrm.isNum w = false
    · rw [pervade_is k d v w hn] at h
      have hp := paired_size hv hn
      split at h
      · cases h
      cases hwk : Vaarrm.workAll (fun (p : U × U) => Vaarrm.pervade k d p.1 p.2) (Vaarrm.paired v w) with
      | error e => rw [hwk] at h; cases h
      | ok l =>
        rw [hwk] at h
        have h1 := workAll_psum _ _ (fun i p x hi hf => by
          obtain ⟨⟨j, a⟩, j', b⟩ := paired_mem hv hw hi
          exact pervade_size k d p.1 p.2 x (wfL_get (items_wf hv) a) (wfL_get (items_wf hw) b) hf) hwk
        have h2 := made_size (shS v w) l
        rw [← Except.ok.inj h]
        omega
    · cases v with
      | arr s l => exact absurd (.inl rfl) hn
      | num a =>
        cases w with
        | arr s l => exact absurd (.inr rfl) hn
        | num b =>
          rw [twoOf_num (show Vaarrm.twoOf k a b = .ok x from h)]
          exact Nat.le_refl _
end N
namespace N
open PySem L2
/-- bounded(n) -/
def spBounded (CR : Addr) : Sp := fun vs H Q E => ∃ n : Int, vs = [.int n] ∧ (-1000000000000000000 ≤ n ∧ n ≤ 1000000000000000000 → Q (.int n) H) ∧ (¬ (-1000000000000000000 ≤ n ∧ n ≤ 1000000000000000000) → Fails CR E H (-3))
section
variable {P : Program} {w : World} {K : PySem.W.Frag} {mg : Str → Option Value} {base : Heap} {CRef fRef : Addr}
theorem sc_bounded : FnScope ["n"] ["n"] (defScope sBounded) := ⟨rfl, rfl, rfl, by decide +kernel, rfl, by decide +kernel, by decide +kernel⟩
theorem ok_bounded (T : Top1 K mg "bounded" sBounded ["n"]) (c_BIG : CI mg "BIG" (-3)) (R : PySem.RefX.RefTxt K mg CRef fRef) (D_within_bounds : Def P w K mg base CX0 "within_bounds" 1 ["n"] (spWithin)) : Def P w K mg base (L2.CX P w) "bounded" 2 ["n"] (spBounded CRef) := by
  refine T.okX sc_bounded (fun vs H Q E h => ?_) (fun f cdv A outer s H vs Q E hr h => ?_)
  · obtain ⟨n, rfl, _⟩ := h
    rfl
  obtain ⟨n, rfl, q, qf⟩ := h
  refine ⟨_, (pss_cons (ps_if (pt_not (pt_val (pe_fn D_within_bounds (hr.mono (by decide)) pass0 (pa_cons (pv 0) pa_nil)))) (pss_one (ps_raiseRef rfl R hr (takes_of rfl rfl rfl rfl) (pa_cons (pe_ci c_BIG) pa_nil))) pss_nil) (pss_one (ps_ret (pv 0)))), ?_⟩
  refine ⟨_, rfl, n, rfl, _, rfl, ?_⟩
  by_cases h : -1000000000000000000 ≤ n ∧ n ≤ 1000000000000000000
  · have e : inG n = true := decide_eq_true h
    rw [e]
    exact iteF ⟨_, rfl, q h⟩
  · have e : inG n = false := decide_eq_false h
    rw [e]
    exact iteT ⟨_, rfl, fun d hd => qf h d _ (same_new hd _) upd_same⟩
end
end N
namespace N
open PySem L2
/-- look_kind(kind, least, greatest) -/
def spLookKind (CR : Addr) : Sp := fun vs H Q E => ∃ k lo hi : Int, vs = [.int k, .int lo, .int hi] ∧ (lo ≤ k → k ≤ hi → Q .non H) ∧ (k < lo ∨ hi < k → Fails CR E H (-12))
section
variable {P : Program} {w : World} {K : PySem.W.Frag} {mg : Str → Option Value} {base : Heap} {CRef fRef : Addr}
theorem sc_look_kind : FnScope ["kind", "least", "greatest"] ["kind", "least", "greatest"] (defScope sLookKind) := ⟨rfl, rfl, rfl, by decide +kernel, rfl, by decide +kernel, by decide +kernel⟩
theorem ok_look_kind (T : Top1 K mg "look_kind" sLookKind ["kind", "least", "greatest"]) (c_KIND : CI mg "KIND" (-12)) (R : PySem.RefX.RefTxt K mg CRef fRef) : Def P w K mg base (L2.CX P w) "look_kind" 2 ["kind", "least", "greatest"] (spLookKind CRef) := by
  refine T.okX sc_look_kind (fun vs H Q E h => ?_) (fun f cdv A outer s H vs Q E hr h => ?_)
  · obtain ⟨k, lo, hi, rfl, _⟩ := h
    rfl
  obtain ⟨k, lo, hi, rfl, q, qf⟩ := h
  refine ⟨_, (pss_one (ps_if (PW.pt (pw_or (pt_cmpR op_lt (pv 0) (pv 1) (nomark _)) (pw_or1 (pt_cmpR op_gt (pv 0) (pv 2) (nomark _))))) (pss_one (ps_raiseRef rfl R hr (takes_of rfl rfl rfl rfl) (pa_cons (pe_ci c_KIND) pa_nil))) pss_nil)), ?_⟩
  refine ⟨_, rfl, _, rfl, _, _, rfl, rfl, _, rfl, ?_⟩
  by_cases h1 : k < lo
  · exact itT h1 ⟨_, rfl, fun d hd => qf (.inl h1) d _ (same_new hd _) upd_same⟩
  refine itF h1 ⟨_, rfl, _, rfl, _, _, rfl, rfl, _, rfl, ?_⟩
  by_cases h2 : hi < k
  · exact itT h2 ⟨_, rfl, fun d hd => qf (.inr h2) d _ (same_new hd _) upd_same⟩
  · exact itF h2 (q (by omega) (by omega))
end
end N
namespace N
open PySem L2
/-- two_numbers(kind, a, b) -/
def spTwoNum (C CR : Addr) : Sp := fun vs H Q E => ∃ (Hf : Hp) (k : Nat) (a b : Int), vs = [.int (k : Int), .int a, .int b] ∧ k ≤ 4 ∧ Same Hf H ∧ (-1000000000000000000 ≤ a ∧ a ≤ 1000000000000000000) ∧ (-1000000000000000000 ≤ b ∧ b ≤ 1000000000000000000) ∧ OutG C CR Q E H Hf (Vaarrm.twoOf k a b)
theorem bounded_out {C CR : Addr} {Q : VK} {E : XK} {H Hf : Hp} {n : Int} (hs : Same Hf H) (q : OutG C CR Q E H Hf (Vaarrm.bounded n)) :
    (-1000000000000000000 ≤ n ∧ n ≤ 1000000000000000000 → Q (.int n) H) ∧ (¬ (-1000000000000000000 ≤ n ∧ n ≤ 1000000000000000000) → Fails CR E H (-3)) := by
  have e : Vaarrm.bounded n = if -1000000000000000000 ≤ n ∧ n ≤ 1000000000000000000 then .ok (.num n) else .error (-3) := rfl
  rw [e] at q
  refine ⟨fun h => ?_, fun h => ?_⟩
  · rw [if_pos h] at q
    exact q _ _ _ (Grow.refl hs) (.num _ h)
  · rw [if_neg h] at q
    exact q
section
variable {P : Program} {w : World} {K : PySem.W.Frag} {mg : Str → Option Value} {base : Heap} {CArr CRef fRef : Addr}
theorem sc_two_numbers : FnScope ["kind", "a", "b"] ["kind", "a", "b"] (defScope sTwoNumbers) := ⟨rfl, rfl, rfl, by decide +kernel, rfl, by decide +kernel, by decide +kernel⟩
theorem ok_two_numbers (T : Top1 K mg "two_numbers" sTwoNumbers ["kind", "a", "b"]) (b_max : mg "max" = none) (b_min : mg "min" = none) (D_bounded : Def P w K mg base (L2.CX P w) "bounded" 2 ["n"] (spBounded CRef)) : Def P w K mg base (L2.CX P w) "two_numbers" 3 ["kind", "a", "b"] (spTwoNum CArr CRef) := by
  refine T.okX sc_two_numbers (fun vs H Q E h => ?_) (fun f cdv A outer s H vs Q E hr h => ?_)
  · obtain ⟨Hf, k, a, b, rfl, _⟩ := h
    rfl
  obtain ⟨Hf, k, a, b, rfl, hk, hs, ha, hb, q⟩ := h
  refine ⟨_, (pss_cons (ps_if (pt_cmpR op_eq (pv 0) pe_int (nomark _)) (pss_one (ps_ret (pe_fn D_bounded (hr.mono (by decide)) (passes_call (takes_of rfl rfl rfl rfl) (fun _ _ _ _ h => h)) (pa_cons (pe_op op_add (pv 1) (pv 2)) pa_nil)))) pss_nil) (pss_cons (ps_if (pt_cmpR op_eq (pv 0) pe_int (nomark _)) (pss_one (ps_ret (pe_fn D_bounded (hr.mono (by decide)) (passes_call (takes_of rfl rfl rfl rfl) (fun _ _ _ _ h => h)) (pa_cons (pe_op op_sub (pv 1) (pv 2)) pa_nil)))) pss_nil) (pss_cons (ps_if (pt_cmpR op_eq (pv 0) pe_int (nomark _)) (pss_one (ps_ret (pe_fn D_bounded (hr.mono (by decide)) (passes_call (takes_of rfl rfl rfl rfl) (fun _ _ _ _ h => h)) (pa_cons (pe_op op_mul (pv 1) (pv 2)) pa_nil)))) pss_nil) (pss_cons (ps_if (pt_cmpR op_eq (pv 0) pe_int (nomark _)) (pss_one (ps_ret (pe_callB (call_min2 rfl) (by rfl) b_min (by decide +kernel) (pa_cons (pv 1) (pa_cons (pv 2) pa_nil))))) pss_nil) (pss_one (ps_ret (pe_callB (call_max2 rfl) (by rfl) b_max (by decide +kernel) (pa_cons (pv 1) (pa_cons (pv 2) pa_nil))))))))), ?_⟩
  refine ⟨_, rfl, rfl, _, rfl, ?_⟩
  match k, hk with
  | 0, _ => exact iteT ⟨_, rfl, _, rfl, _, _, rfl, rfl, a + b, rfl, bounded_out hs q⟩
  | 1, _ => exact iteF ⟨_, rfl, rfl, _, rfl, iteT ⟨_, rfl, _, rfl, _, _, rfl, rfl, a - b, rfl, bounded_out hs q⟩⟩
  | 2, _ => exact iteF ⟨_, rfl, rfl, _, rfl, iteF ⟨_, rfl, rfl, _, rfl, iteT ⟨_, rfl, _, rfl, _, _, rfl, rfl, .inl ⟨by omega, by omega⟩, a * b, rfl, bounded_out hs q⟩⟩⟩
  | 3, _ =>
    have q : GotV CArr Q H Hf (.num (if a < b then a else b)) := q
    have e : (if a < b then a else b) = if b < a then b else a := by
      split <;> split <;> omega
    rw [e] at q
    exact iteF ⟨_, rfl, rfl, _, rfl, iteF ⟨_, rfl, rfl, _, rfl, iteF ⟨_, rfl, rfl, _, rfl, iteT ⟨_, rfl, _, rfl, _, _, rfl, q _ _ _ (Grow.refl hs) (.num _ (by split <;> omega))⟩⟩⟩⟩
  | 4, _ =>
    have q : GotV CArr Q H Hf (.num (if a < b then b else a)) := q
    exact iteF ⟨_, rfl, rfl, _, rfl, iteF ⟨_, rfl, rfl, _, rfl, iteF ⟨_, rfl, rfl, _, rfl, iteF ⟨_, rfl, _, rfl, _, _, rfl, q _ _ _ (Grow.refl hs) (.num _ (by split <;> omega))⟩⟩⟩⟩
end
end N
namespace N
open PySem L2
/-- shared_extents(u, w) -/
def spShared (K : PySem.W.Frag) (C CR : Addr) : Sp := fun vs H Q E => ∃ (u1 u2 : V) (v1 v2 : U), vs = [u1, u2] ∧ Rep C H u1 v1 ∧ Rep C H u2 v2 ∧ (¬ Unl v1 v2 → GotL Q H (Bs (shS v1 v2))) ∧ (Unl v1 v2 → Fails CR E H (-4))
section
variable {P : Program} {w : World} {K : PySem.W.Frag} {mg : Str → Option Value} {base : Heap} {CArr CRef fRef : Addr}
theorem sc_shared_extents : FnScope ["u", "w"] ["u", "w"] (defScope sSharedExtents) := ⟨rfl, rfl, rfl, by decide +kernel, rfl, by decide +kernel, by decide +kernel⟩
theorem ok_shared_extents (T : Top1 K mg "shared_extents" sSharedExtents ["u", "w"]) (c_SHAPE : CI mg "SHAPE" (-4)) (F_Arr : ClF K CArr ["extents", "members"]) (R : PySem.RefX.RefTxt K mg CRef fRef) (D_extents_of : Def P w K mg base CX0 "extents_of" 2 ["u"] (spExtOf CArr)) (D_rank_of : Def P w K mg base CX0 "rank_of" 3 ["u"] (spRankOf CArr)) : Def P w K mg base (L2.CX P w) "shared_extents" 4 ["u", "w"] (spShared K CArr CRef) := by
  refine T.okX sc_shared_extents (fun vs H Q E h => ?_) (fun f cdv A outer s H vs Q E hr h => ?_)
  · obtain ⟨u1, u2, v1, v2, rfl, _⟩ := h
    rfl
  obtain ⟨u1, u2, v1, v2, rfl, r1, r2, q, qf⟩ := h
  refine ⟨_, (pss_cons (ps_if (pt_cmpR op_eq (pe_fn D_rank_of (hr.mono (by decide)) pass0 (pa_cons (pv 0) pa_nil)) pe_int (nomark _)) (pss_one (ps_ret (pe_fn D_extents_of (hr.mono (by decide)) pass0 (pa_cons (pv 1) pa_nil)))) pss_nil) (pss_cons (ps_if (pt_cmpR op_eq (pe_fn D_rank_of (hr.mono (by decide)) pass0 (pa_cons (pv 1) pa_nil)) pe_int (nomark _)) (pss_one (ps_ret (pe_fn D_extents_of (hr.mono (by decide)) pass0 (pa_cons (pv 0) pa_nil)))) pss_nil) (pss_cons (ps_if (pt_cmpR (op_neD hr.units) (pe_fld (pv 0) rfl) (pe_fld (pv 1) rfl) (nomark _)) (pss_one (ps_raiseRef rfl R hr (takes_of rfl rfl rfl rfl) (pa_cons (pe_ci c_SHAPE) pa_nil))) pss_nil) (pss_one (ps_ret (pe_fn D_extents_of (hr.mono (by decide)) pass0 (pa_cons (pv 0) pa_nil))))))), ?_⟩
  refine ⟨_, rfl, u1, v1, rfl, r1, fun H1 e1 => ⟨rfl, _, rfl, ?_⟩⟩
  by_cases h1 : Vaarrm.rank v1 = 0
  · have q := q fun z => z.1 h1
    unfold shS at q
    rw [if_pos h1] at q
    exact ifT (by rw [h1]; rfl) ⟨_, rfl, u2, v2, rfl, r2.mono e1, q.back e1⟩
  have q' := q
  unfold shS at q
  rw [if_neg h1] at q
  refine ifF (by simp; omega) ⟨_, rfl, u2, v2, rfl, r2.mono e1, fun H2 e2 => ⟨rfl, _, rfl, ?_⟩⟩
  have e12 := e1.trans e2
  by_cases h2 : Vaarrm.rank v2 = 0
  · exact ifT (by rw [h2]; rfl) ⟨_, rfl, u1, v1, rfl, r1.mono e12, (q fun z => z.2.1 h2).back e12⟩
  cases v1 with
  | num n => exact absurd rfl h1
  | arr s l =>
    cases v2 with
    | num n => exact absurd rfl h2
    | arr t m =>
      obtain ⟨x, dx, e, mx, us, rfl, hx, he, hm, hb, hl⟩ := r1.of_arr
      obtain ⟨y, dy, e', my, ws, rfl, hy, he', hm', hb', hl'⟩ := r2.of_arr
      have gE := F_Arr.no "extents" (by simp)
      refine ifF (by simp; omega) ⟨_, rfl, x, CArr, dx, _, _, rfl, e12 _ _ hx, F_Arr.cl, gE, arrF_ext _ _, _, rfl, y, CArr, dy, _, _, rfl, e12 _ _ hy, F_Arr.cl, gE, arrF_ext _ _, _, _, dp_ints (SqL.of (e12 _ _ he)), dp_ints (SqL.of (e12 _ _ he')), shaped_ints _, shaped_ints _, _, rfl, ?_⟩
      rw [eqv_ints]
      by_cases h0 : s = t
      · exact ifF (by rw [decide_eq_true h0]; rfl) ⟨_, rfl, _, _, rfl, r1.mono e12, (q fun z => z.2.2 h0).back e12⟩
      · exact ifT (by rw [decide_eq_false h0]; rfl) ⟨_, rfl, fun d hd => qf ⟨h1, h2, h0⟩ d _ (e12.trans (same_new hd _)) upd_same⟩
end
end N
namespace N
open PySem L2
/-- spread(u, many) -/
def spSpread (C : Addr) : Sp := fun vs H Q _ => ∃ (Hf : Hp) (u : V) (v : U) (m : Nat), vs = [u, .int (m : Int)] ∧ Same Hf H ∧ Rep C Hf u v ∧ wf v = true ∧ m ≤ 1000000 ∧ GotM C Q H Hf (sprd v m)
theorem rep_flat {α : Type} (x : α) : ∀ m : Nat, (List.replicate m [x]).flatten = List.replicate m x
  | 0 => rfl
  | m + 1 => by
    rw [List.replicate_succ, List.flatten_cons, rep_flat x m]
    rfl
theorem reps_rep {C : Addr} {H : Hp} {u : V} {v : U} (h : Rep C H u v) : ∀ m : Nat, Reps C H (List.replicate m u) (List.replicate m v)
  | 0 => .nil
  | m + 1 => .cons h (reps_rep h m)
section
variable {P : Program} {w : World} {K : PySem.W.Frag} {mg : Str → Option Value} {base : Heap} {CArr : Addr}
theorem sc_spread : FnScope ["u", "many"] ["u", "many"] (defScope sSpread) := ⟨rfl, rfl, rfl, by decide +kernel, rfl, by decide +kernel, by decide +kernel⟩
theorem ok_spread (T : Top1 K mg "spread" sSpread ["u", "many"]) (D_members_of : Def P w K mg base CX0 "members_of" 2 ["u"] (spMembersOf CArr)) (D_rank_of : Def P w K mg base CX0 "rank_of" 3 ["u"] (spRankOf CArr)) : Def P w K mg base CX0 "spread" 4 ["u", "many"] (spSpread CArr) := by
  refine T.ok sc_spread (fun vs H Q E h => ?_) (fun f cdv A outer s H vs Q E hr h => ?_)
  · obtain ⟨Hf, u, v, m, rfl, _⟩ := h
    rfl
  obtain ⟨Hf, u, v, m, rfl, hs, hu, hw, hm, q⟩ := h
  refine ⟨_, (pss_cons (ps_if (pt_cmpR op_eq (pe_fn D_rank_of (hr.mono (by decide)) pass0 (pa_cons (pv 0) pa_nil)) pe_int (nomark _)) (pss_one (ps_ret (pe_op op_rep (pe_fn D_members_of (hr.mono (by decide)) pass0 (pa_cons (pv 0) pa_nil)) (pv 1)))) pss_nil) (pss_one (ps_ret (pe_fn D_members_of (hr.mono (by decide)) pass0 (pa_cons (pv 0) pa_nil))))), ?_⟩
  refine ⟨_, rfl, u, v, rfl, hu.mono hs, fun H1 e1 => ⟨rfl, _, rfl, ?_⟩⟩
  unfold sprd at q
  by_cases h1 : Vaarrm.rank v = 0
  · rw [if_pos h1] at q
    obtain ⟨x, hx⟩ := items_one hw h1
    refine ifT (by rw [h1]; rfl) ⟨_, rfl, Hf, u, v, rfl, hs.trans e1, hu, fun p us H2 hp e2 hp2 hus => ?_⟩
    rw [hx] at hus q
    cases hus with
    | cons a b =>
      cases b
      refine ⟨_, rfl, p, (m : Int), _, rfl, rfl, hp2, by omega, by omega, ?_, fun r hr0 => ?_⟩
      · rw [Int.toNat_natCast]
        exact Nat.le_trans (show _ ≤ 1000000 by rw [List.length_singleton]; omega) (by decide)
      · rw [Int.toNat_natCast, rep_flat]
        exact q r _ _ ((e1.trans e2).free hr0) ((e1.trans e2).trans (same_new hr0 _)) upd_same (reps_rep a m)
  · rw [if_neg h1] at q
    exact ifF (by simp; omega) ⟨_, rfl, Hf, u, v, rfl, hs.trans e1, hu, q.back e1⟩
end
end N
namespace N
open PySem L2
/-- down_two(kind, u, w), both less than d deep -/
def spDownTwo (C CR : Addr) (d : Nat) : Sp := fun vs H Q E => ∃ (Hf : Hp) (k : Nat) (u1 u2 : V) (v1 v2 : U), vs = [.int (k : Int), u1, u2] ∧ k ≤ 4 ∧ Same Hf H ∧ Rep C Hf u1 v1 ∧ Rep C Hf u2 v2 ∧ tdepth v1 < d ∧ tdepth v2 < d ∧ wf v1 = true ∧ wf v2 = true ∧ tsize v1 ≤ 10000 ∧ tsize v2 ≤ 10000 ∧ OutG C CR Q E H Hf (Vaarrm.pervade k d v1 v2)
theorem ite_two {b b2 : Bool} {G C : Prop} (hC : b = false ∨ b2 = false → C) (hG : b = true → (b2 = false → C) → G) : if b = true then G else C := by
  cases b with
  | false => exact ifF rfl (hC (.inl rfl))
  | true => exact ifT rfl (hG rfl fun h => hC (.inr h))
theorem shS_le {C : Addr} {H : Hp} {u1 u2 : V} {v1 v2 : U} (r1 : Rep C H u1 v1) (r2 : Rep C H u2 v2) : ∀ n ∈ shS v1 v2, n ≤ 1000000000000000000 := by
  unfold shS
  split
  · exact r2.ext_le
  · exact r1.ext_le
theorem items_depth {v x : U} {j d : Nat} (h : (Vaarrm.itemsOf v)[j]? = some x) (hd : tdepth v < d + 1) (h1 : 1 ≤ d) : tdepth x < d := by
  cases v with
  | num n =>
    have h2 : x ∈ [Vaarrm.V.num n] := List.mem_of_getElem? h
    rw [List.mem_singleton.mp h2]
    exact h1
  | arr s l =>
    have h2 := tdepthL_get h
    have hd : 1 + tdepthL l < d + 1 := hd
    have h2 : tdepth x ≤ tdepthL l := h2
    omega
theorem arr_deep {v : U} (h : Vaarrm.isNum v = false) : 1 ≤ tdepth v := by
  cases v with
  | num n => cases h
  | arr s l =>
    show 1 ≤ 1 + tdepthL l
    omega
theorem item_size {v x : U} {j : Nat} (h : (Vaarrm.itemsOf v)[j]? = some x) : tsize x ≤ tsize v := Nat.le_trans (tsizeL_get h) (items_size v)
theorem shS_prod {v w : U} (hv : wf v = true) (hw : wf w = true) (zv : tsize v ≤ 10000) (zw : tsize w ≤ 10000) : Vaarrm.product (shS v w) ≤ 10000 := by
  have lv := items_len hv
  have lw := items_len hw
  have a1 := len_tsizeL (Vaarrm.itemsOf v)
  have a2 := len_tsizeL (Vaarrm.itemsOf w)
  have b1 := items_size v
  have b2 := items_size w
  unfold shS
  split <;> omega
section
variable {P : Program} {w : World} {K : PySem.W.Frag} {mg : Str → Option Value} {base : Heap} {CArr CRef fRef : Addr}
theorem sc_down_two : FnScope ["kind", "u", "w", "extents", "many", "pairs", "a", "b"] ["kind", "u", "w"] (defScope sDownTwo) := ⟨rfl, rfl, rfl, by decide +kernel, rfl, by decide +kernel, by decide +kernel⟩
theorem dt_all (T : Top1 K mg "down_two" sDownTwo ["kind", "u", "w"]) (b_list : mg "list" = none) (b_zip : mg "zip" = none) (D_make : Def P w K mg base CX0 "make" 3 ["extents", "members"] (spMake CArr)) (D_spread : Def P w K mg base CX0 "spread" 4 ["u", "many"] (spSpread CArr)) (D_product : Def P w K mg base CX0 "product" 1 ["numbers"] (spProduct K)) (D_shared_extents : Def P w K mg base (L2.CX P w) "shared_extents" 4 ["u", "w"] (spShared K CArr CRef)) (D_is_number : Def P w K mg base CX0 "is_number" 1 ["u"] (spIsNum CArr)) (D_two_numbers : Def P w K mg base (L2.CX P w) "two_numbers" 3 ["kind", "a", "b"] (spTwoNum CArr CRef)) : ∀ d, Def P w K mg base (L2.CX P w) "down_two" (d + 4) ["kind", "u", "w"] (spDownTwo CArr CRef d)
  | 0 => by
    refine T.okX sc_down_two (fun vs H Q E h => ?_) (fun f cdv A outer s H vs Q E hr h => ?_)
    · obtain ⟨Hf, k, u1, u2, v1, v2, rfl, _⟩ := h
      rfl
    · obtain ⟨Hf, k, u1, u2, v1, v2, rfl, hk, hs, r1, r2, hd, _⟩ := h
      exact absurd hd (by omega)
  | d + 1 => by
    have D_down_two := dt_all T b_list b_zip D_make D_spread D_product D_shared_extents D_is_number D_two_numbers d
    refine T.okX sc_down_two (fun vs H Q E h => ?_) (fun f cdv A outer s H vs Q E hr h => ?_)
    · obtain ⟨Hf, k, u1, u2, v1, v2, rfl, _⟩ := h
      rfl
    obtain ⟨Hf, k, u1, u2, v1, v2, rfl, hk, hs, r1, r2, hd1, hd2, hw1, hw2, hz1, hz2, q⟩ := h
    refine ⟨_, (pss_cons (ps_if (PW.pt (pw_and (pt_val (pe_fn D_is_number (hr.mono (by omega)) pass0 (pa_cons (pv 1) pa_nil))) (pw_and1 (pt_val (pe_fn D_is_number (hr.mono (by omega)) pass0 (pa_cons (pv 2) pa_nil)))))) (pss_one (ps_ret (pe_fn D_two_numbers (hr.mono (by omega)) (passes_call (takes_of rfl rfl rfl rfl) (fun _ _ _ _ h => h)) (pa_cons (pv 0) (pa_cons (pv 1) (pa_cons (pv 2) pa_nil)))))) pss_nil) (pss_cons (ps_set (i := 3) sc_down_two.nd rfl (Or.inl rfl) (pe_fn D_shared_extents (hr.mono (by omega)) (passes_call (takes_of rfl rfl rfl rfl) (fun _ _ _ _ h => h)) (pa_cons (pv 1) (pa_cons (pv 2) pa_nil)))) (pss_cons (ps_set (i := 4) sc_down_two.nd rfl (Or.inl rfl) (pe_fn D_product (hr.mono (by omega)) pass0 (pa_cons (pv 3) pa_nil))) (pss_cons (ps_set (i := 5) sc_down_two.nd rfl (Or.inl rfl) (pe_listZip rfl rfl b_list rfl b_zip (pa_cons (pe_fn D_spread (hr.mono (by omega)) pass0 (pa_cons (pv 1) (pa_cons (pv 4) pa_nil))) (pa_cons (pe_fn D_spread (hr.mono (by omega)) pass0 (pa_cons (pv 2) (pa_cons (pv 4) pa_nil))) pa_nil)))) (pss_one (ps_ret (pe_fn D_make (hr.mono (by omega)) pass0 (pa_cons (pv 3) (pa_cons (pe_lcX (own := [("a", 6), ("b", 7)]) (g := gTup K 2 (gCons (gName 6) (gCons (gName 7) gNil))) (te := tCall (spDownTwo CArr CRef d) [] E (tCons (tVar 0) (tCons (tVar 6) (tCons (tVar 7) tNil)))) rfl sc_down_two.nd rfl rfl rfl rfl (pi_list (pv 5)) (blkOk_by (own := [("a", 6), ("b", 7)]) (N := ["kind", "u", "w", "extents", "many", "pairs", "a", "b"]) (sc := defScope sDownTwo) (by decide +kernel)) (fun _ _ _ _ _ => (pg_tup rfl (pgs_cons (pg_name (i := 6) sc_down_two.nd rfl (Or.inl rfl)) (pgs_cons (pg_name (i := 7) sc_down_two.nd rfl (Or.inl rfl)) pgs_nil)))) (fun _ _ _ _ _ xe hxe => (pe_fn D_down_two (hr.mono (by omega)) (fun _ _ _ _ _ _ J c => hxe _ _ _ _ _ _ J.unwish c) (pa_cons (pv 0) (pa_cons (pv 6) (pa_cons (pv 7) pa_nil)))))) pa_nil))))))))), ?_⟩
    refine ⟨_, rfl, u1, v1, rfl, r1.mono hs, _, rfl, ?_⟩
    refine ite_two (b2 := Vaarrm.isNum v2) (fun hn => ?_) (fun hb hC => ?_)
    rotate_left
    · refine ⟨_, rfl, u2, v2, rfl, r2.mono hs, _, rfl, ?_⟩
      cases hb2 : Vaarrm.isNum v2 with
      | false => exact ifF rfl (hC hb2)
      | true =>
        cases v1 with
        | arr s l => cases hb
        | num a =>
          cases v2 with
          | arr s l => cases hb2
          | num b =>
            obtain ⟨rfl, ha⟩ := r1.of_num
            obtain ⟨rfl, hb⟩ := r2.of_num
            exact ifT rfl ⟨_, rfl, _, rfl, _, rfl, Hf, k, a, b, rfl, hk, hs, ha, hb, q⟩
    have d1 : 1 ≤ d := by
      rcases hn with h | h
      · have := arr_deep h
        omega
      · have := arr_deep h
        omega
    rw [pervade_is k d v1 v2 hn] at q
    refine ⟨_, rfl, _, rfl, u1, u2, v1, v2, rfl, r1.mono hs, r2.mono hs, fun hnU ex H1 hex e1 hex1 => ?_, fun hU => ?_⟩
    rotate_left
    · rw [if_pos hU] at q
      exact q
    rw [if_neg hnU] at q
    have g1 := Grow.freeze hs (Grow.of hs e1) hex hex1
    have hex0 : (upd Hf ex (.lst (Bs (shS v1 v2)))) ex = some (.lst (Bs (shS v1 v2))) := upd_same
    generalize upd Hf ex (.lst (Bs (shS v1 v2))) = Hf0 at g1 hex0
    have r1' := r1.mono g1.ff
    have r2' := r2.mono g1.ff
    have hmle := shS_prod hw1 hw2 hz1 hz2
    have hlens := sprd_len hw1 hw2 hnU
    have hpair := paired_is hw1 hw2
    have hsle := shS_le r1 r2
    have hone : shS v1 v2 = [] → (Vaarrm.paired v1 v2).length = 1 := fun h => by
      rw [hpair, List.length_zip, hlens.1, hlens.2, h]
      rfl
    have hpl : (Vaarrm.paired v1 v2).length ≤ 10000 := by
      rw [hpair, List.length_zip, hlens.1, hlens.2, Nat.min_self]
      exact hmle
    refine ⟨_, rfl, ex, shS v1 v2, rfl, SqL.of hex1, hsle, ?_⟩
    generalize hm : Vaarrm.product (shS v1 v2) = m at *
    refine ⟨_, rfl, _, rfl, Hf0, u1, v1, m, rfl, g1.fh, r1', hw1, by omega, fun p us H2 hp e2 hp2 hus => ?_⟩
    refine ⟨_, rfl, _, rfl, Hf0, u2, v2, m, rfl, g1.fh.trans e2, r2', hw2, by omega, fun p' ws H3 hp' e3 hp3 hws => ?_⟩
    refine ⟨p, p', us, ws, rfl, SqL.of (e3 _ _ hp2), SqL.of hp3, by rw [hus.length, hws.length, hlens.1, hlens.2], fun H4 pp ts e4 hpp hts hpn hpp4 hP => ?_⟩
    have e14 := (e2.trans e3).trans e4
    have hs4 := g1.fh.trans e14
    have htl : (ts.map V.ref).length = (Vaarrm.paired v1 v2).length := by
      rw [List.length_map, Paired.length hP, List.length_zip, hus.length, hws.length, hpair, List.length_zip]
    refine ⟨_, rfl, _, rfl, pp, rfl, ⟨_, SqL.of hpp4⟩, fun D hD => ?_⟩
    have fD : Hf0 D = none := hs4.free hD
    generalize hps : Vaarrm.paired v1 v2 = ps at *
    refine lc_list (K := K) (a := pp) (xs := ts.map V.ref) (fun i H' => ∃ Hf' acc rs, Grow H4 H' Hf0 Hf' ∧ H' D = some (.lst acc) ∧ Hf' D = none ∧ Reps CArr Hf' acc rs ∧ Vaarrm.workAll (fun (p : U × U) => Vaarrm.pervade k d p.1 p.2) (ps.take i) = .ok rs) ⟨Hf0, [], [], Grow.of hs4 (same_new hD _), upd_same, fD, .nil, rfl⟩ (fun i H' _ ⟨_, _, _, g, _⟩ => SqL.of (g.same _ _ hpp4)) ?_ ?_
    · rintro i y H' hi ⟨Hf', acc, rs, g, hD', fD', hacc, hrs⟩
      rw [List.getElem?_map] at hi
      cases hti : ts[i]? with
      | none => rw [hti] at hi; cases hi
      | some t =>
        rw [hti] at hi
        have hy : V.ref t = y := Option.some.inj hi
        subst hy
        obtain ⟨⟨x1, x2⟩, hxz, hxt⟩ := LiI.paired_get hP hti
        obtain ⟨hx1, hx2⟩ := List.getElem?_zip_eq_some.mp hxz
        obtain ⟨w1, hv1, hr1⟩ := hus.get hx1
        obtain ⟨w2, hv2, hr2⟩ := hws.get hx2
        have hpi : ps[i]? = some (w1, w2) := by
          rw [hpair]
          exact List.getElem?_zip_eq_some.mpr ⟨hv1, hv2⟩
        obtain ⟨j1, hj1⟩ := sprd_mem hw1 hv1
        obtain ⟨j2, hj2⟩ := sprd_mem hw2 hv2
        have hk1 := item_size hj1
        have hk2 := item_size hj2
        have hsn := workAll_snoc (fun (p : U × U) => Vaarrm.pervade k d p.1 p.2) (w1, w2) (ps.take i)
        rw [← take_more hpi, hrs] at hsn
        dsimp only at hsn
        refine ⟨t, _, rfl, SqT.of (g.same _ _ hxt), rfl, _, _, rfl, _, _, rfl, rfl, ?_⟩
        refine ⟨rfl, _, rfl, _, rfl, _, rfl, Hf', k, x1, x2, w1, w2, rfl, hk, g.fh, hr1.mono g.ff, hr2.mono g.ff, items_depth hj1 hd1 d1, items_depth hj2 hd2 d1, wfL_get (items_wf hw1) hj1, wfL_get (items_wf hw2) hj2, by omega, by omega, ?_⟩
        cases hres : Vaarrm.pervade k d w1 w2 with
        | error n =>
          rw [hres] at hsn
          rw [workAll_bad _ n ps (i + 1) hsn] at q
          exact Fails.back ((e1.trans e14).trans g.same) q
        | ok x =>
          rw [hres] at hsn
          intro r H5 Hf5 g5 hr5
          have hal : acc.length ≤ 100000 := by
            rw [hacc.length, workAll_len _ _ _ hrs, List.length_take]
            omega
          have fD5 := g5.out hD' fD'
          exact ⟨acc, g5.same _ _ hD', Nat.lt_of_le_of_lt hal (by decide), Hf5, acc ++ [r], rs ++ [x], (g.trans g5).mut hD fD5, upd_same, fD5, (hacc.mono g5.ff).append (.one hr5), hsn⟩
    · rintro H' ⟨Hf', acc, rs, g, hD', fD', hacc, hrs⟩
      rw [htl, List.take_length] at hrs
      rw [hrs] at q
      have hrl := workAll_len _ _ _ hrs
      have g2 := Grow.freeze hs4 g hD hD'
      have gg := (g1.trans (Grow.of g1.fh e14)).trans g2
      have q : GotV CArr Q H Hf (Vaarrm.made (shS v1 v2) rs) := q
      exact ⟨upd Hf' D (.lst acc), ex, D, shS v1 v2, acc, rs, rfl, g2.fh, g2.ff _ _ hex0, upd_same, hacc.mono (same_new fD' _), hsle, fun z => by rw [hrl]; exact hone z, q.back gg⟩
theorem ok_down_two (T : Top1 K mg "down_two" sDownTwo ["kind", "u", "w"]) (b_list : mg "list" = none) (b_zip : mg "zip" = none) (D_make : Def P w K mg base CX0 "make" 3 ["extents", "members"] (spMake CArr)) (D_spread : Def P w K mg base CX0 "spread" 4 ["u", "many"] (spSpread CArr)) (D_product : Def P w K mg base CX0 "product" 1 ["numbers"] (spProduct K)) (D_shared_extents : Def P w K mg base (L2.CX P w) "shared_extents" 4 ["u", "w"] (spShared K CArr CRef)) (D_is_number : Def P w K mg base CX0 "is_number" 1 ["u"] (spIsNum CArr)) (D_two_numbers : Def P w K mg base (L2.CX P w) "two_numbers" 3 ["kind", "a", "b"] (spTwoNum CArr CRef)) : Def P w K mg base (L2.CX P w) "down_two" 16 ["kind", "u", "w"] (spDownTwo CArr CRef 12) := dt_all T b_list b_zip D_make D_spread D_product D_shared_extents D_is_number D_two_numbers 12
end
end N
namespace N
open PySem L2
theorem dueP2_is (k : Int) (t t2 : List Nat) : dueP2 k t t2 = if k < 0 ∨ 4 < k then [-12] else match Vaarrm.read t with
    | .error n => [n]
    | .ok v => match Vaarrm.read t2 with
      | .error n => [n]
      | .ok w => dueG (Vaarrm.pervade k.toNat 12 v w) := by
  show VaarrmNeutral.encode (if k < 0 ∨ 4 < k then Vaarrm.no (-12) else match Vaarrm.read t with | .error k => Vaarrm.no k | .ok v => match Vaarrm.read t2 with | .error k => Vaarrm.no k | .ok w => Vaarrm.given (Vaarrm.pervade k.toNat 12 v w)) = _
  split
  · rfl
  · cases Vaarrm.read t with
    | error n => rfl
    | ok v => cases Vaarrm.read t2 <;> rfl
section
variable {P : Program} {w : World} {K : PySem.W.Frag} {mg : Str → Option Value} {base : Heap} {CTok CArr CRef fRef : Addr}
theorem sc_pervade : FnScope ["k", "v", "w", "e", "u", "other"] ["k", "v", "w"] (defScope sPervade) := ⟨rfl, rfl, rfl, by decide +kernel, rfl, by decide +kernel, by decide +kernel⟩
theorem ok_pervade (T : Top1 K mg "pervade" sPervade ["k", "v", "w"]) (R : PySem.RefX.RefTxt K mg CRef fRef) (D_value_answer : Def P w K mg base (L2.CX P w) "value_answer" 13 ["u"] (spValAns CArr CRef)) (D_down_two : Def P w K mg base (L2.CX P w) "down_two" 16 ["kind", "u", "w"] (spDownTwo CArr CRef 12)) (D_look : Def P w K mg base (L2.CX P w) "look" 6 ["text"] (spLook K CArr CRef)) (D_look_kind : Def P w K mg base (L2.CX P w) "look_kind" 2 ["kind", "least", "greatest"] (spLookKind CRef)) : Def P w K mg base CX0 "pervade" 17 ["k", "v", "w"] (spKTwo K dueP2) := by
  refine T.ok sc_pervade (fun vs H Q E h => ?_) (fun f cdv A outer s H vs Q E hr h => ?_)
  · obtain ⟨k, a, b, t, t2, rfl, _⟩ := h
    rfl
  obtain ⟨k, a, b, t, t2, rfl, hk1, hk2, hS, hS2, hz, hz2, q⟩ := h
  refine ⟨_, (pss_one (ps_try_as (i := 3) (Wout := fun _ _ _ _ => False) rfl rfl sc_pervade.nd rfl rfl ⟨rfl, by decide, Or.inl R.gC⟩ takes0 (fun W pn xe tk _ => (pss_cons (ps_expr (pe_fnS D_look_kind (hr.mono (by decide)) tk (pa_cons (pv 0) (pa_cons pe_int (pa_cons pe_int pa_nil))))) (pss_cons (ps_set (i := 4) sc_pervade.nd rfl (Or.inl rfl) (pe_fnS D_look (hr.mono (by decide)) tk (pa_cons (pv 1) pa_nil))) (pss_cons (ps_set (i := 5) sc_pervade.nd rfl (Or.inl rfl) (pe_fnS D_look (hr.mono (by decide)) tk (pa_cons (pv 2) pa_nil))) (pss_one (ps_ret (pe_fnS D_value_answer (hr.mono (by decide)) tk (pa_cons (pe_fnS D_down_two (hr.mono (by decide)) tk (pa_cons (pv 0) (pa_cons (pv 4) (pa_cons (pv 5) pa_nil)))) pa_nil)))))))) (fun a oe cls d pn hz hf => (pss_one (ps_ret (pe_lst (pa_cons (pe_numRef R hz hf (pv 3)) pa_nil))))))), ?_⟩
  rw [dueP2_is] at q
  refine ⟨_, rfl, k, 0, 4, rfl, fun h1 h2 => ?_, fun hbad d H' s1 hd => ⟨true, R.te, fun _ x _ => ⟨_, rfl, rfl, rfl, d, _, rfl, hd, by show 1 ≤ sizeLine; decide, fun p hp => q _ p (by rw [if_pos hbad]; exact upd_same)⟩, fun z => Bool.noConfusion z⟩⟩
  rw [if_neg (by omega)] at q
  refine ⟨_, rfl, a, t, rfl, hS, hz, fun v hv u H1 e1 hu h1 h2 hw => ?_, fun n hn d H' s1 hd => ⟨true, R.te, fun _ x _ => ⟨_, rfl, rfl, rfl, d, _, rfl, hd, by show 1 ≤ sizeLine; decide, fun p hp => q _ p (by rw [hn]; exact upd_same)⟩, fun z => Bool.noConfusion z⟩⟩
  rw [hv] at q
  dsimp only at q
  refine ⟨_, rfl, b, t2, rfl, e1.seq hS2, hz2, fun v2 hv2 u2 H3 e3 hu2 h21 h22 hw2 => ?_, fun n hn d H' s1 hd => ⟨true, R.te, fun _ x _ => ⟨_, rfl, rfl, rfl, d, _, rfl, hd, by show 1 ≤ sizeLine; decide, fun p hp => q _ p (by rw [hn]; exact upd_same)⟩, fun z => Bool.noConfusion z⟩⟩
  rw [hv2] at q
  dsimp only at q
  refine ⟨_, rfl, _, rfl, _, rfl, H3, k.toNat, u, u2, v, v2, by show [V.int k, u, u2] = _; rw [Int.toNat_of_nonneg (by omega)], by omega, Same.refl _, hu.mono e3, hu2, by omega, by omega, hw, hw2, by omega, by omega, ?_⟩
  have hsz : ∀ x, Vaarrm.pervade k.toNat 12 v v2 = .ok x → tsize x ≤ 1000000 := fun x hx => by
    have h3 := pervade_size _ _ _ _ _ hw hw2 hx
    have h4 := Nat.mul_le_mul h1 h21
    omega
  cases hres : Vaarrm.pervade k.toNat 12 v v2 with
  | ok x =>
    have hsz := hsz x hres
    rw [hres] at q
    intro r H2 Hf2 g hr1
    have hr2 := hr1.mono g.fh
    refine ⟨r, _, rfl, hr2, by omega, fun ho p H2 hp e2 hp2 => q _ p ?_, fun ho d H' s1 hd => ⟨true, R.te, fun _ x _ => ⟨_, rfl, rfl, rfl, d, _, rfl, hd, by show 1 ≤ sizeLine; decide, fun p hp => q _ p ?_⟩, fun z => Bool.noConfusion z⟩⟩
    · rw [dueG_list ho]
      exact hp2
    · rw [dueG_lim ho]
      exact upd_same
  | error n =>
    rw [hres] at q
    exact fun d H' s1 hd => ⟨true, R.te, fun _ x _ => ⟨_, rfl, rfl, rfl, d, _, rfl, hd, by show 1 ≤ sizeLine; decide, fun p hp => q _ p upd_same⟩, fun z => Bool.noConfusion z⟩
end
end N
namespace N
theorem py_is {k : Int} {t u : List Nat} (h : ∀ c ∈ t, c ≤ 255) (h2 : ∀ c ∈ u, c ≤ 255) : PyVaarrm.pervade k (t.map fun (n : Nat) => (n : Int)) (u.map fun (n : Nat) => (n : Int)) = dueP2 k t u := by
  have e : VaarrmNeutral.callOf [[17, k], t.map fun (n : Nat) => (n : Int), u.map fun (n : Nat) => (n : Int)] = some (.pervade k t u) := by
    show ((VaarrmNeutral.text (t.map fun (n : Nat) => (n : Int))).bind fun a => (VaarrmNeutral.text (u.map fun (n : Nat) => (n : Int))).map (Vaarrm.Call.pervade k a)) = _
    rw [text_ok h, text_ok h2]
    rfl
  unfold PyVaarrm.pervade VaarrmNeutral.step
  rw [e]
  rfl
end N
open PySem PySem.W PyProof.Rows
set_option maxRecDepth 100000 in
set_option maxHeartbeats 8000000 in
theorem PySem.Challenge.cw_nestarray_s18_pervade_holds : PySem.Challenge.rw_nestarray_s18_pervade.Holds := by
  w_on; k_headS; (case hw => exact ⟨[.int 0, .list [], .list []], by decide +kernel, by decide +kernel⟩)
  k_fillS
  refine L2.walk_specK (r := PySem.Challenge.rw_nestarray_s18_pervade) (k := 17) (CX := L2.CX0) (ps := ["k", "v", "w"]) (sp := (fun K => N.spKTwo K N.dueP2)) (by decide +kernel) rfl rfl ⟨rfl, by decide, by decide⟩ (fun w h Y => PySem.W.kIn_of Y) ?F ?S (fun _ _ _ _ z => z)
  case F =>
    intro w mg fa h Y KX G hmg
    obtain ⟨CRef, fRef, R⟩ : ∃ C f, N.RefTxtAt KX mg C f := by
      refine' ⟨_, _, N.refTxt KX G (p1 := ⟨10, 17, 10, 21⟩) (p2 := ⟨10, 23, 10, 29⟩) (q1 := ⟨11, 8, 11, 12⟩) (q2 := ⟨11, 8, 11, 19⟩) (q3 := ⟨11, 22, 11, 28⟩) (q4 := ⟨11, 8, 11, 28⟩) ?aC ?xL ?sa ?ga ?gg ?nb ?a1 ?t1 ?l1 ?c1 ?kC ?eC ?tC ?hC ?iC ?sC⟩
      (case aC => k_is); (case xL => k_is); (case sa => k_is); (case ga => k_is); (case gg => k_is); (case nb => k_is); (case a1 => k_is); (case t1 => k_is); (case l1 => k_is); (case c1 => k_is); (case kC => k_is); (case eC => k_is); (case tC => k_is); (case hC => k_is); (case iC => k_is); (case sC => first | rfl | k_is)
    obtain ⟨CArr, T_Arr, F_Arr, A_Arr⟩ : ∃ C, N.TopCAt KX mg "Arr" "Arr.__init__" N.sArrInit ["self", "extents", "members"] C ∧ N.ClFAt KX C ["extents", "members"] ∧ N.ArrIsAt KX C := by
      refine' ⟨_, N.topC KX G ?aC ?pg ?hd ?po ?sa ?mk ?kc ?a ?i ?l ?c ?k (fun _ _ _ _ _ _ us hl => match us, hl with | [_, _, _], _ => rfl), (N.clf_cons ?n_extents (N.clf_cons ?n_members (N.clf_nil ⟨?pg, ?hd, ?po, ?sa⟩))), ⟨?cc, ?cg, ?ct, ?co, ?ci⟩⟩
      (case aC => k_is); (case pg => k_is); (case hd => k_is); (case po => k_is); (case sa => k_is); (case mk => k_is); (case kc => k_is); (case a => k_is); (case i => k_is); (case l => k_is); (case c => k_is); (case k => k_is); (case n_extents => k_is); (case n_members => k_is); (case cc => k_is); (case cg => k_is); (case ct => k_is); (case co => k_is); (case ci => k_is)
    have T_make : N.Top1At KX mg "make" N.sMake ["extents", "members"] := by
      refine' N.top1 KX G ?a ?l ?c ?k (fun _ _ _ _ _ _ us hl => match us, hl with | [_, _], _ => rfl)
      (case a => k_is); (case l => k_is); (case c => k_is); (case k => k_is)
    have T_is_number : N.Top1At KX mg "is_number" N.sIsNumber ["u"] := by
      refine' N.top1 KX G ?a ?l ?c ?k (fun _ _ _ _ _ _ us hl => match us, hl with | [_], _ => rfl)
      (case a => k_is); (case l => k_is); (case c => k_is); (case k => k_is)
    have T_extents_of : N.Top1At KX mg "extents_of" N.sExtentsOf ["u"] := by
      refine' N.top1 KX G ?a ?l ?c ?k (fun _ _ _ _ _ _ us hl => match us, hl with | [_], _ => rfl)
      (case a => k_is); (case l => k_is); (case c => k_is); (case k => k_is)
    have T_members_of : N.Top1At KX mg "members_of" N.sMembersOf ["u"] := by
      refine' N.top1 KX G ?a ?l ?c ?k (fun _ _ _ _ _ _ us hl => match us, hl with | [_], _ => rfl)
      (case a => k_is); (case l => k_is); (case c => k_is); (case k => k_is)
    have T_rank_of : N.Top1At KX mg "rank_of" N.sRankOf ["u"] := by
      refine' N.top1 KX G ?a ?l ?c ?k (fun _ _ _ _ _ _ us hl => match us, hl with | [_], _ => rfl)
      (case a => k_is); (case l => k_is); (case c => k_is); (case k => k_is)
    have T_product : N.Top1At KX mg "product" N.sProduct ["numbers"] := by
      refine' N.top1 KX G ?a ?l ?c ?k (fun _ _ _ _ _ _ us hl => match us, hl with | [_], _ => rfl)
      (case a => k_is); (case l => k_is); (case c => k_is); (case k => k_is)
    have T_is_shape : N.Top1At KX mg "is_shape" N.sIsShape ["extents"] := by
      refine' N.top1 KX G ?a ?l ?c ?k (fun _ _ _ _ _ _ us hl => match us, hl with | [_], _ => rfl)
      (case a => k_is); (case l => k_is); (case c => k_is); (case k => k_is)
    have T_within_bounds : N.Top1At KX mg "within_bounds" N.sWithinBounds ["n"] := by
      refine' N.top1 KX G ?a ?l ?c ?k (fun _ _ _ _ _ _ us hl => match us, hl with | [_], _ => rfl)
      (case a => k_is); (case l => k_is); (case c => k_is); (case k => k_is)
    have T_bounded : N.Top1At KX mg "bounded" N.sBounded ["n"] := by
      refine' N.top1 KX G ?a ?l ?c ?k (fun _ _ _ _ _ _ us hl => match us, hl with | [_], _ => rfl)
      (case a => k_is); (case l => k_is); (case c => k_is); (case k => k_is)
    have T_walk : N.Top1At KX mg "walk" N.sWalk ["u"] := by
      refine' N.top1 KX G ?a ?l ?c ?k (fun _ _ _ _ _ _ us hl => match us, hl with | [_], _ => rfl)
      (case a => k_is); (case l => k_is); (case c => k_is); (case k => k_is)
    have T_deepest : N.Top1At KX mg "deepest" N.sDeepest ["met"] := by
      refine' N.top1 KX G ?a ?l ?c ?k (fun _ _ _ _ _ _ us hl => match us, hl with | [_], _ => rfl)
      (case a => k_is); (case l => k_is); (case c => k_is); (case k => k_is)
    have T_within_limits : N.Top1At KX mg "within_limits" N.sWithinLimits ["u"] := by
      refine' N.top1 KX G ?a ?l ?c ?k (fun _ _ _ _ _ _ us hl => match us, hl with | [_], _ => rfl)
      (case a => k_is); (case l => k_is); (case c => k_is); (case k => k_is)
    have T_all_shapes : N.Top1At KX mg "all_shapes" N.sAllShapes ["u"] := by
      refine' N.top1 KX G ?a ?l ?c ?k (fun _ _ _ _ _ _ us hl => match us, hl with | [_], _ => rfl)
      (case a => k_is); (case l => k_is); (case c => k_is); (case k => k_is)
    have T_come_out : N.Top1At KX mg "come_out" N.sComeOut ["u"] := by
      refine' N.top1 KX G ?a ?l ?c ?k (fun _ _ _ _ _ _ us hl => match us, hl with | [_], _ => rfl)
      (case a => k_is); (case l => k_is); (case c => k_is); (case k => k_is)
    obtain ⟨CTok, T_Token, F_Token⟩ : ∃ C, N.TopCAt KX mg "Token" "Token.__init__" N.sTokenInit ["self", "kind", "number", "stop"] C ∧ N.ClFAt KX C ["kind", "number", "stop"] := by
      refine' ⟨_, N.topC KX G ?aC ?pg ?hd ?po ?sa ?mk ?kc ?a ?i ?l ?c ?k (fun _ _ _ _ _ _ us hl => match us, hl with | [_, _, _, _], _ => rfl), (N.clf_cons ?n_kind (N.clf_cons ?n_number (N.clf_cons ?n_stop (N.clf_nil ⟨?pg, ?hd, ?po, ?sa⟩))))⟩
      (case aC => k_is); (case pg => k_is); (case hd => k_is); (case po => k_is); (case sa => k_is); (case mk => k_is); (case kc => k_is); (case a => k_is); (case i => k_is); (case l => k_is); (case c => k_is); (case k => k_is); (case n_kind => k_is); (case n_number => k_is); (case n_stop => k_is)
    have T_skip_blanks : N.Top1At KX mg "skip_blanks" N.sSkipBlanks ["text", "at"] := by
      refine' N.top1 KX G ?a ?l ?c ?k (fun _ _ _ _ _ _ us hl => match us, hl with | [_, _], _ => rfl)
      (case a => k_is); (case l => k_is); (case c => k_is); (case k => k_is)
    have T_digits_end : N.Top1At KX mg "digits_end" N.sDigitsEnd ["text", "at"] := by
      refine' N.top1 KX G ?a ?l ?c ?k (fun _ _ _ _ _ _ us hl => match us, hl with | [_, _], _ => rfl)
      (case a => k_is); (case l => k_is); (case c => k_is); (case k => k_is)
    have T_digits_number : N.Top1At KX mg "digits_number" N.sDigitsNumber ["text", "first", "stop"] := by
      refine' N.top1 KX G ?a ?l ?c ?k (fun _ _ _ _ _ _ us hl => match us, hl with | [_, _, _], _ => rfl)
      (case a => k_is); (case l => k_is); (case c => k_is); (case k => k_is)
    have T_good_digits : N.Top1At KX mg "good_digits" N.sGoodDigits ["text", "first", "stop", "below"] := by
      refine' N.top1 KX G ?a ?l ?c ?k (fun _ _ _ _ _ _ us hl => match us, hl with | [_, _, _, _], _ => rfl)
      (case a => k_is); (case l => k_is); (case c => k_is); (case k => k_is)
    have T_read_number : N.Top1At KX mg "read_number" N.sReadNumber ["text", "at"] := by
      refine' N.top1 KX G ?a ?l ?c ?k (fun _ _ _ _ _ _ us hl => match us, hl with | [_, _], _ => rfl)
      (case a => k_is); (case l => k_is); (case c => k_is); (case k => k_is)
    have T_read_token : N.Top1At KX mg "read_token" N.sReadToken ["text", "at"] := by
      refine' N.top1 KX G ?a ?l ?c ?k (fun _ _ _ _ _ _ us hl => match us, hl with | [_, _], _ => rfl)
      (case a => k_is); (case l => k_is); (case c => k_is); (case k => k_is)
    have T_state_after_number : N.Top1At KX mg "state_after_number" N.sStateAfterNumber ["state", "number"] := by
      refine' N.top1 KX G ?a ?l ?c ?k (fun _ _ _ _ _ _ us hl => match us, hl with | [_, _], _ => rfl)
      (case a => k_is); (case l => k_is); (case c => k_is); (case k => k_is)
    have T_state_after_closing : N.Top1At KX mg "state_after_closing" N.sStateAfterClosing ["level"] := by
      refine' N.top1 KX G ?a ?l ?c ?k (fun _ _ _ _ _ _ us hl => match us, hl with | [_], _ => rfl)
      (case a => k_is); (case l => k_is); (case c => k_is); (case k => k_is)
    have T_advance : N.Top1At KX mg "advance" N.sAdvance ["state", "level", "token"] := by
      refine' N.top1 KX G ?a ?l ?c ?k (fun _ _ _ _ _ _ us hl => match us, hl with | [_, _, _], _ => rfl)
      (case a => k_is); (case l => k_is); (case c => k_is); (case k => k_is)
    have T_scan : N.Top1At KX mg "scan" N.sScan ["text"] := by
      refine' N.top1 KX G ?a ?l ?c ?k (fun _ _ _ _ _ _ us hl => match us, hl with | [_], _ => rfl)
      (case a => k_is); (case l => k_is); (case c => k_is); (case k => k_is)
    have T_look_long : N.Top1At KX mg "look_long" N.sLookLong ["text"] := by
      refine' N.top1 KX G ?a ?l ?c ?k (fun _ _ _ _ _ _ us hl => match us, hl with | [_], _ => rfl)
      (case a => k_is); (case l => k_is); (case c => k_is); (case k => k_is)
    have T_look : N.Top1At KX mg "look" N.sLook ["text"] := by
      refine' N.top1 KX G ?a ?l ?c ?k (fun _ _ _ _ _ _ us hl => match us, hl with | [_], _ => rfl)
      (case a => k_is); (case l => k_is); (case c => k_is); (case k => k_is)
    have T_close : N.Top1At KX mg "close" N.sClose ["extents", "members"] := by
      refine' N.top1 KX G ?a ?l ?c ?k (fun _ _ _ _ _ _ us hl => match us, hl with | [_, _], _ => rfl)
      (case a => k_is); (case l => k_is); (case c => k_is); (case k => k_is)
    have T_build : N.Top1At KX mg "build" N.sBuild ["tokens"] := by
      refine' N.top1 KX G ?a ?l ?c ?k (fun _ _ _ _ _ _ us hl => match us, hl with | [_], _ => rfl)
      (case a => k_is); (case l => k_is); (case c => k_is); (case k => k_is)
    have T_digits : N.Top1At KX mg "digits" N.sDigits ["n"] := by
      refine' N.top1 KX G ?a ?l ?c ?k (fun _ _ _ _ _ _ us hl => match us, hl with | [_], _ => rfl)
      (case a => k_is); (case l => k_is); (case c => k_is); (case k => k_is)
    have T_number_text : N.Top1At KX mg "number_text" N.sNumberText ["n"] := by
      refine' N.top1 KX G ?a ?l ?c ?k (fun _ _ _ _ _ _ us hl => match us, hl with | [_], _ => rfl)
      (case a => k_is); (case l => k_is); (case c => k_is); (case k => k_is)
    have T_extents_text : N.Top1At KX mg "extents_text" N.sExtentsText ["extents"] := by
      refine' N.top1 KX G ?a ?l ?c ?k (fun _ _ _ _ _ _ us hl => match us, hl with | [_], _ => rfl)
      (case a => k_is); (case l => k_is); (case c => k_is); (case k => k_is)
    have T_value_text : N.Top1At KX mg "value_text" N.sValueText ["u"] := by
      refine' N.top1 KX G ?a ?l ?c ?k (fun _ _ _ _ _ _ us hl => match us, hl with | [_], _ => rfl)
      (case a => k_is); (case l => k_is); (case c => k_is); (case k => k_is)
    have T_value_answer : N.Top1At KX mg "value_answer" N.sValueAnswer ["u"] := by
      refine' N.top1 KX G ?a ?l ?c ?k (fun _ _ _ _ _ _ us hl => match us, hl with | [_], _ => rfl)
      (case a => k_is); (case l => k_is); (case c => k_is); (case k => k_is)
    have T_look_kind : N.Top1At KX mg "look_kind" N.sLookKind ["kind", "least", "greatest"] := by
      refine' N.top1 KX G ?a ?l ?c ?k (fun _ _ _ _ _ _ us hl => match us, hl with | [_, _, _], _ => rfl)
      (case a => k_is); (case l => k_is); (case c => k_is); (case k => k_is)
    have T_two_numbers : N.Top1At KX mg "two_numbers" N.sTwoNumbers ["kind", "a", "b"] := by
      refine' N.top1 KX G ?a ?l ?c ?k (fun _ _ _ _ _ _ us hl => match us, hl with | [_, _, _], _ => rfl)
      (case a => k_is); (case l => k_is); (case c => k_is); (case k => k_is)
    have T_shared_extents : N.Top1At KX mg "shared_extents" N.sSharedExtents ["u", "w"] := by
      refine' N.top1 KX G ?a ?l ?c ?k (fun _ _ _ _ _ _ us hl => match us, hl with | [_, _], _ => rfl)
      (case a => k_is); (case l => k_is); (case c => k_is); (case k => k_is)
    have T_spread : N.Top1At KX mg "spread" N.sSpread ["u", "many"] := by
      refine' N.top1 KX G ?a ?l ?c ?k (fun _ _ _ _ _ _ us hl => match us, hl with | [_, _], _ => rfl)
      (case a => k_is); (case l => k_is); (case c => k_is); (case k => k_is)
    have T_down_two : N.Top1At KX mg "down_two" N.sDownTwo ["kind", "u", "w"] := by
      refine' N.top1 KX G ?a ?l ?c ?k (fun _ _ _ _ _ _ us hl => match us, hl with | [_, _, _], _ => rfl)
      (case a => k_is); (case l => k_is); (case c => k_is); (case k => k_is)
    have T_pervade : N.Top1At KX mg "pervade" N.sPervade ["k", "v", "w"] := by
      refine' N.top1 KX G ?a ?l ?c ?k (fun _ _ _ _ _ _ us hl => match us, hl with | [_, _, _], _ => rfl)
      (case a => k_is); (case l => k_is); (case c => k_is); (case k => k_is)
    have c_LONG : N.CI mg "LONG" (-1) := by
      refine' N.ci KX G ?a
      (case a => k_is)
    have c_FORM : N.CI mg "FORM" (-2) := by
      refine' N.ci KX G ?a
      (case a => k_is)
    have c_BIG : N.CI mg "BIG" (-3) := by
      refine' N.ci KX G ?a
      (case a => k_is)
    have c_SHAPE : N.CI mg "SHAPE" (-4) := by
      refine' N.ci KX G ?a
      (case a => k_is)
    have c_LIMIT : N.CI mg "LIMIT" (-5) := by
      refine' N.ci KX G ?a
      (case a => k_is)
    have c_KIND : N.CI mg "KIND" (-12) := by
      refine' N.ci KX G ?a
      (case a => k_is)
    have c_GREATEST : N.CI mg "GREATEST" 1000000000000000000 := by
      refine' N.ci KX G ?a
      (case a => k_is)
    have c_MOST_RANK : N.CI mg "MOST_RANK" 4 := by
      refine' N.ci KX G ?a
      (case a => k_is)
    have c_MOST_PRODUCT : N.CI mg "MOST_PRODUCT" 256 := by
      refine' N.ci KX G ?a
      (case a => k_is)
    have c_MOST_DEPTH : N.CI mg "MOST_DEPTH" 8 := by
      refine' N.ci KX G ?a
      (case a => k_is)
    have c_MOST_SIZE : N.CI mg "MOST_SIZE" 512 := by
      refine' N.ci KX G ?a
      (case a => k_is)
    have c_BLANKS : N.CTAt KX mg "BLANKS" [32, 9, 10, 13] := by
      refine' N.ct4 KX G ?e ?l
      (case e => k_is); (case l => k_is)
    have c_OPENING : N.CI mg "OPENING" 91 := by
      refine' N.ci KX G ?a
      (case a => k_is)
    have c_COLON : N.CI mg "COLON" 58 := by
      refine' N.ci KX G ?a
      (case a => k_is)
    have c_CLOSING : N.CI mg "CLOSING" 93 := by
      refine' N.ci KX G ?a
      (case a => k_is)
    have c_SIGNS : N.CTAt KX mg "SIGNS" [91, 58, 93] := by
      refine' N.ct3 KX G ?e ?l
      (case e => k_is); (case l => k_is)
    have c_LOW : N.CI mg "LOW" 95 := by
      refine' N.ci KX G ?a
      (case a => k_is)
    have c_ZERO : N.CI mg "ZERO" 48 := by
      refine' N.ci KX G ?a
      (case a => k_is)
    have c_NINE : N.CI mg "NINE" 57 := by
      refine' N.ci KX G ?a
      (case a => k_is)
    have c_NOTHING : N.CI mg "NOTHING" 0 := by
      refine' N.ci KX G ?a
      (case a => k_is)
    have c_NUMBER : N.CI mg "NUMBER" 1 := by
      refine' N.ci KX G ?a
      (case a => k_is)
    have c_BEYOND : N.CI mg "BEYOND" 1000000000000000001 := by
      refine' N.ci KX G ?a
      (case a => k_is)
    have c_START : N.CI mg "START" 0 := by
      refine' N.ci KX G ?a
      (case a => k_is)
    have c_EXTENTS : N.CI mg "EXTENTS" 1 := by
      refine' N.ci KX G ?a
      (case a => k_is)
    have c_MEMBERS : N.CI mg "MEMBERS" 2 := by
      refine' N.ci KX G ?a
      (case a => k_is)
    have c_DONE : N.CI mg "DONE" 3 := by
      refine' N.ci KX G ?a
      (case a => k_is)
    have c_FAULT : N.CI mg "FAULT" 4 := by
      refine' N.ci KX G ?a
      (case a => k_is)
    have c_MOST_BYTES : N.CI mg "MOST_BYTES" 8192 := by
      refine' N.ci KX G ?a
      (case a => k_is)
    have c_BLANK : N.CI mg "BLANK" 32 := by
      refine' N.ci KX G ?a
      (case a => k_is)
    have b_enumerate : mg "enumerate" = none := by
      refine' PySem.W.mg_none_of KX G ?a
      (case a => k_is)
    have b_int : mg "int" = none := by
      refine' PySem.W.mg_none_of KX G ?a
      (case a => k_is)
    have b_isinstance : mg "isinstance" = none := by
      refine' PySem.W.mg_none_of KX G ?a
      (case a => k_is)
    have b_len : mg "len" = none := by
      refine' PySem.W.mg_none_of KX G ?a
      (case a => k_is)
    have b_list : mg "list" = none := by
      refine' PySem.W.mg_none_of KX G ?a
      (case a => k_is)
    have b_max : mg "max" = none := by
      refine' PySem.W.mg_none_of KX G ?a
      (case a => k_is)
    have b_min : mg "min" = none := by
      refine' PySem.W.mg_none_of KX G ?a
      (case a => k_is)
    have b_range : mg "range" = none := by
      refine' PySem.W.mg_none_of KX G ?a
      (case a => k_is)
    have b_reversed : mg "reversed" = none := by
      refine' PySem.W.mg_none_of KX G ?a
      (case a => k_is)
    have b_zip : mg "zip" = none := by
      refine' PySem.W.mg_none_of KX G ?a
      (case a => k_is)
    exact N.top_end T_pervade hmg fun base _ _ => by
      have D_Arr := N.ok_ArrInit (P := PySem.Challenge.pw_nestarray_s18_pervade) (w := w) (base := base) T_Arr F_Arr
      have D_Token := N.ok_TokenInit (P := PySem.Challenge.pw_nestarray_s18_pervade) (w := w) (base := base) T_Token F_Token
      have D_is_number := N.ok_is_number (P := PySem.Challenge.pw_nestarray_s18_pervade) (w := w) (base := base) (CArr := CArr) T_is_number b_int b_isinstance F_Arr A_Arr
      have D_make := N.ok_make (P := PySem.Challenge.pw_nestarray_s18_pervade) (w := w) (base := base) (CArr := CArr) T_make b_len D_Arr D_is_number
      have D_extents_of := N.ok_extents_of (P := PySem.Challenge.pw_nestarray_s18_pervade) (w := w) (base := base) (CArr := CArr) T_extents_of b_list F_Arr D_is_number
      have D_members_of := N.ok_members_of (P := PySem.Challenge.pw_nestarray_s18_pervade) (w := w) (base := base) (CArr := CArr) T_members_of b_list F_Arr D_is_number
      have D_rank_of := N.ok_rank_of (P := PySem.Challenge.pw_nestarray_s18_pervade) (w := w) (base := base) (CArr := CArr) T_rank_of b_len D_extents_of
      have D_product := N.ok_product (P := PySem.Challenge.pw_nestarray_s18_pervade) (w := w) (base := base) T_product
      have D_is_shape := N.ok_is_shape (P := PySem.Challenge.pw_nestarray_s18_pervade) (w := w) (base := base) T_is_shape c_MOST_PRODUCT c_MOST_RANK b_len D_product
      have D_within_bounds := N.ok_within_bounds (P := PySem.Challenge.pw_nestarray_s18_pervade) (w := w) (base := base) T_within_bounds c_GREATEST
      have D_bounded := N.ok_bounded (P := PySem.Challenge.pw_nestarray_s18_pervade) (w := w) (base := base) (CRef := CRef) T_bounded c_BIG R D_within_bounds
      have D_walk := N.ok_walk (P := PySem.Challenge.pw_nestarray_s18_pervade) (w := w) (base := base) (CArr := CArr) T_walk b_len b_reversed F_Arr D_is_number
      have D_deepest := N.ok_deepest (P := PySem.Challenge.pw_nestarray_s18_pervade) (w := w) (base := base) (CArr := CArr) T_deepest b_max D_is_number
      have D_within_limits := N.ok_within_limits (P := PySem.Challenge.pw_nestarray_s18_pervade) (w := w) (base := base) (CArr := CArr) T_within_limits c_MOST_DEPTH c_MOST_SIZE b_len D_deepest D_walk
      have D_all_shapes := N.ok_all_shapes (P := PySem.Challenge.pw_nestarray_s18_pervade) (w := w) (base := base) (CArr := CArr) T_all_shapes F_Arr D_walk D_is_shape D_is_number
      have D_come_out := N.ok_come_out (P := PySem.Challenge.pw_nestarray_s18_pervade) (w := w) (base := base) (CArr := CArr) (CRef := CRef) T_come_out c_LIMIT R D_all_shapes D_within_limits
      have D_skip_blanks := N.ok_skip_blanks (P := PySem.Challenge.pw_nestarray_s18_pervade) (w := w) (base := base) T_skip_blanks c_BLANKS b_len b_range
      have D_digits_end := N.ok_digits_end (P := PySem.Challenge.pw_nestarray_s18_pervade) (w := w) (base := base) T_digits_end c_NINE c_ZERO b_len b_range
      have D_digits_number := N.ok_digits_number (P := PySem.Challenge.pw_nestarray_s18_pervade) (w := w) (base := base) T_digits_number c_ZERO c_BEYOND b_min b_range
      have D_good_digits := N.ok_good_digits (P := PySem.Challenge.pw_nestarray_s18_pervade) (w := w) (base := base) T_good_digits c_ZERO
      have D_read_number := N.ok_read_number (P := PySem.Challenge.pw_nestarray_s18_pervade) (w := w) (base := base) (CTok := CTok) T_read_number c_NUMBER c_NOTHING c_LOW D_Token D_digits_number D_good_digits D_digits_end
      have D_read_token := N.ok_read_token (P := PySem.Challenge.pw_nestarray_s18_pervade) (w := w) (base := base) (CTok := CTok) T_read_token c_SIGNS D_Token D_read_number
      have D_state_after_number := N.ok_state_after_number (P := PySem.Challenge.pw_nestarray_s18_pervade) (w := w) (base := base) T_state_after_number c_FAULT c_EXTENTS c_MEMBERS c_START c_DONE
      have D_state_after_closing := N.ok_state_after_closing (P := PySem.Challenge.pw_nestarray_s18_pervade) (w := w) (base := base) T_state_after_closing c_MEMBERS c_DONE
      have D_advance := N.ok_advance (P := PySem.Challenge.pw_nestarray_s18_pervade) (w := w) (base := base) (CTok := CTok) T_advance c_FAULT c_MEMBERS c_CLOSING c_EXTENTS c_COLON c_START c_OPENING c_NUMBER F_Token D_state_after_closing D_state_after_number
      have D_scan := N.ok_scan (P := PySem.Challenge.pw_nestarray_s18_pervade) (w := w) (base := base) (CTok := CTok) T_scan c_DONE c_FAULT c_START b_len F_Token D_skip_blanks D_advance D_read_token
      have D_look_long := N.ok_look_long (P := PySem.Challenge.pw_nestarray_s18_pervade) (w := w) (base := base) (CRef := CRef) T_look_long c_MOST_BYTES c_LONG b_len R
      have D_close := N.ok_close (P := PySem.Challenge.pw_nestarray_s18_pervade) (w := w) (base := base) (CArr := CArr) (CRef := CRef) T_close c_SHAPE b_len R D_make D_product D_is_shape
      have D_build := N.ok_build (P := PySem.Challenge.pw_nestarray_s18_pervade) (w := w) (base := base) (CTok := CTok) (CArr := CArr) (CRef := CRef) T_build c_OPENING c_COLON c_CLOSING F_Token D_close
      have D_look := N.ok_look (P := PySem.Challenge.pw_nestarray_s18_pervade) (w := w) (base := base) (CArr := CArr) (CRef := CRef) T_look c_LIMIT c_BIG c_FORM F_Token R D_within_limits D_build D_within_bounds D_scan D_look_long
      have D_digits := N.ok_digits (P := PySem.Challenge.pw_nestarray_s18_pervade) (w := w) (base := base) T_digits c_ZERO b_list b_reversed
      have D_number_text := N.ok_number_text (P := PySem.Challenge.pw_nestarray_s18_pervade) (w := w) (base := base) T_number_text c_LOW D_digits
      have D_extents_text := N.ok_extents_text (P := PySem.Challenge.pw_nestarray_s18_pervade) (w := w) (base := base) T_extents_text c_BLANK b_enumerate D_digits
      have D_value_text := N.ok_value_text (P := PySem.Challenge.pw_nestarray_s18_pervade) (w := w) (base := base) (CArr := CArr) T_value_text c_CLOSING c_BLANK c_COLON c_OPENING F_Arr D_extents_text D_is_number D_number_text
      have D_value_answer := N.ok_value_answer (P := PySem.Challenge.pw_nestarray_s18_pervade) (w := w) (base := base) (CArr := CArr) (CRef := CRef) T_value_answer D_value_text D_come_out
      have D_look_kind := N.ok_look_kind (P := PySem.Challenge.pw_nestarray_s18_pervade) (w := w) (base := base) (CRef := CRef) T_look_kind c_KIND R
      have D_two_numbers := N.ok_two_numbers (P := PySem.Challenge.pw_nestarray_s18_pervade) (w := w) (base := base) (CArr := CArr) (CRef := CRef) T_two_numbers b_max b_min D_bounded
      have D_shared_extents := N.ok_shared_extents (P := PySem.Challenge.pw_nestarray_s18_pervade) (w := w) (base := base) (CArr := CArr) (CRef := CRef) T_shared_extents c_SHAPE F_Arr R D_extents_of D_rank_of
      have D_spread := N.ok_spread (P := PySem.Challenge.pw_nestarray_s18_pervade) (w := w) (base := base) (CArr := CArr) T_spread D_members_of D_rank_of
      have D_down_two := N.ok_down_two (P := PySem.Challenge.pw_nestarray_s18_pervade) (w := w) (base := base) (CArr := CArr) (CRef := CRef) T_down_two b_list b_zip D_make D_spread D_product D_shared_extents D_is_number D_two_numbers
      have D_pervade := N.ok_pervade (P := PySem.Challenge.pw_nestarray_s18_pervade) (w := w) (base := base) T_pervade R D_value_answer D_down_two D_look D_look_kind
      exact D_pervade
  case S =>
    intro K H xs a hO hwi hask hx
    cases hx with
    | cons h1 hx2 =>
      cases hx2 with
      | cons h2 hx3 =>
        cases hx3 with
        | cons h3 h4 =>
          cases h4
          cases h1 with
          | int k =>
            cases h2 with
            | lst hs2 ha2 =>
              cases h3 with
              | lst hs3 ha3 =>
                have e := L2.ints_dw a.2.1 _ ha2
                subst e
                have e := L2.ints_dw a.2.2.1 _ ha3
                subst e
                have hwi := Bool.and_eq_true_iff.mp hwi
                obtain ⟨hk1, hk2⟩ := N.arg_int hwi.1
                have hwi2 := Bool.and_eq_true_iff.mp hwi.2
                obtain ⟨t, e, ht, hb⟩ := N.arg_bytes hwi2.1
                obtain ⟨t2, e2, ht2, hb2⟩ := N.arg_bytes (Bool.and_eq_true_iff.mp hwi2.2).1
                obtain ⟨k, ns, ns2, u⟩ := a
                have e : ns = t.map fun (n : Nat) => (n : Int) := e
                subst e
                have e2 : ns2 = t2.map fun (n : Nat) => (n : Int) := e2
                subst e2
                refine ⟨k, _, _, t, t2, rfl, hk1, hk2, (by rw [← N.Bs_map]; exact hs2), (by rw [← N.Bs_map]; exact hs3), ht, ht2, fun H' p hp => ?_⟩
                show L2.Dw K H' (.ref p) (.list ((PyVaarrm.pervade k (t.map fun (n : Nat) => (n : Int)) (t2.map fun (n : Nat) => (n : Int))).map WData.int))
                rw [N.py_is hb hb2]
                exact .lst (L2.SqL.of hp) (L2.dw_ints _)
#print axioms PySem.Challenge.cw_nestarray_s18_pervade_holds
