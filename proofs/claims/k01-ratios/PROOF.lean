import PyProof.Rows.All
import Wide.All
import OpenK.AllK
import Wide.FinOn
import KE.KStateDown
import KE.KExcSuper
import KE.KIsAll
import Lean
import HandS.ForMost
import HandS.ForExc
import HandS.Head0
import HandS.Head1
import HandS.Head2
import HandS.Head3
import HandS.HeadEnd
import HandS.HeadHook1
import HandS.HeadHook2
import HandS.HeadNt
import HandS.Defaults
import HandS.Gcd
import HandS.FStr
import HandS.Wide
import HandS.EndBits
import HandS.ExcInit
import HandS.ExcIs
import HandS.ExcField
import HandS.IsInst
import HandS.Style
import HandS.TupAny
import HandS.TupLe
import HandS.Deep
import HandS.RaiseMore
import HandS.MakeKw
import HandS.TupMul
import HandS.HeadWalk
import HandS.Evl
import PySem.Challenge.RW_ellwarden_k01_ratios

set_option Elab.async false
set_option linter.all false
set_option maxRecDepth 100000
set_option maxHeartbeats 4000000
namespace Uv
open PySem PySem.Spec L2
open PyProof.Rows hiding St

/-! ### a def's promise, asked where no repr is running -/
structure FnG (P : Program) (w : World) (K : PySem.W.Frag) (mg : Str → Option Value) (base : Heap) (k : Nat) (f : Addr) (fd : FuncData) (ps : List Str) (sp : Sp) : Prop where
  len : ∀ vs H Q E, sp vs H Q E → vs.length = ps.length
  run : ∀ (A : Around) (outer : List Env) (s : Shared) (H : Hp) (args : Args) (us : List Value) (vs : List V) (Q : VK) (E : XK), Room k A → A.guards = some [] → Env0 P w K mg base A outer s H → BindsTo s fd args (ps.zip us) → Vals vs us → sp vs H Q E →
    codeAny (model P w) A (.call (.ref f) args) (CR (L2.CX P w) outer P w H s Q E) s
theorem FnG.mono {P : Program} {w : World} {K : PySem.W.Frag} {mg : Str → Option Value} {base : Heap} {j k : Nat} {f : Addr} {fd : FuncData} {ps : List Str} {sp : Sp} (F : FnG P w K mg base j f fd ps sp) (h : j ≤ k) : FnG P w K mg base k f fd ps sp :=
  ⟨F.len, fun A outer s H args us vs Q E hr => F.run A outer s H args us vs Q E (hr.mono h)⟩
section
variable {P : Program} {w : World} {K : PySem.W.Frag} {mg : Str → Option Value} {base : Heap} {x qual : Str} {params : Arguments} {body : List Stmt} {scope : Scope} {dvs : List V} {kws : List (Str × V)} {f : Addr} {fd : FuncData}
/-- THE RULE for a def -/
theorem fng {N ps : List Str} {k : Nat} {sp : Sp} (F : FunD K x qual params body scope dvs kws f fd) (S : FnScope N ps scope) (len : ∀ vs H Q E, sp vs H Q E → vs.length = ps.length)
    (hbody : ∀ (cdv : Value) (A : Around) (outer : List Env) (s : Shared) (H : Hp) (vs : List V) (Q : VK) (E : XK), Room k (A.deeper (envOfC qual scope s.heap.objs.size f cdv)) → (A.deeper (envOfC qual scope s.heap.objs.size f cdv)).guards = some [] → sp vs H Q E →
      ∃ t, PSs (cxOf (L2.CX P w) P w K mg base N qual scope f cdv A outer s H E) body t ∧ t { nx := fun _ H' => Q .non H', rt := Q } (start N vs) H) : FnG P w K mg base (k + 1) f fd ps sp := by
  obtain ⟨oc, od, dV, kV, doc, pm, an, cdv, ct, osl, rfl, lk, hcd, _, _⟩ := F.ex
  refine ⟨len, fun A outer s H args us vs Q E hr hgd e0 hb r hsp => ?_⟩
  have hl := len _ _ _ _ hsp
  have KX : K.In s.heap := e0.mod.kin.keeps fun b o e => (e0.bs b o e).1
  have lim : s.heap.NoLimit := e0.mod.nolimit.keeps fun b o e => (e0.bs b o e).1
  have kinds : ∀ y ∈ ps.zip us, scope.names.lookup y.1 = some .local ∨ (scope.names.lookup y.1 = some .cell ∧ ((cellsFrom (s.heap.objs.size + 1) scope.names []).lookup y.1).isSome = true) := fun ⟨n, v⟩ hy => by
    rcases S.par n (List.of_mem_zip hy).1 with q | q
    · exact .inl q
    · exact .inr ⟨q, PySem.W.cellsFrom_some _ _ _ (.inl q)⟩
  refine codeAny_call_function hr.depth (KX _ _ lk) rfl S.co S.gen rfl (PySem.W.codeRec_of KX hcd) (hb _ _ _ _ ?_)
  refine wpAny_newFunctionEnv_cells S.kind kinds fun env he s1 z => ?_
  subst he
  refine ⟨lim.keeps z.toInCall.keep, codeAny_func ?_⟩
  obtain ⟨t, ht, hq⟩ := hbody cdv A outer s H vs Q E (hr.deeper _) hgd hsp
  have I : Inv (cxOf (L2.CX P w) P w K mg base N qual scope f cdv A outer s H E) [] (start N vs) H s1 := inv_start S hr.hd e0 hl r z
  refine wpAny_mono (ht.run [] s1 (start N vs) H _ I hq) (fun fl s' hs => ?_) fun e s' hs => hs
  have fin : ∀ {σ' : L2.St} {H' : Hp} {v : V} {u : Value}, Inv (cxOf (L2.CX P w) P w K mg base N qual scope f cdv A outer s H E) [] σ' H' s' → RelV v u → Q v H' → CE outer P w H s Q u s' :=
    fun {σ' H' v u} J rv q => ⟨v, H', J.os, J.bare, J.base, J.hok, rv, q⟩
  match fl, hs with
  | .ret u, hs => obtain ⟨v, σ', H', J, rv, q⟩ := hs; exact fin J rv q
  | .next, hs => obtain ⟨σ', H', J, q⟩ := hs; exact fin (v := V.non) (u := Value.none) J rfl q
  | .brk, hs => obtain ⟨_, _, _, q⟩ := hs; exact q.elim
  | .cont, hs => obtain ⟨_, _, _, q⟩ := hs; exact q.elim
end

/-! ### calls of defs by their names, whatever their defaults -/
structure Cal (P : Program) (w : World) (K : PySem.W.Frag) (mg : Str → Option Value) (base : Heap) (k : Nat) (x : Str) (ps : List Str) (dvs : List V) (sp : Sp) : Prop where
  ex : ∃ (f : Addr) (fd : FuncData) (ds : List Value), FnG P w K mg base k f fd ps sp ∧ mg x = some (.ref f) ∧ PySem.W.keepIn K (.ref f) = true ∧ Binds K fd ps ds ∧ Vals dvs ds
/-- nothing is let out -/
abbrev En : L2.St → XK := fun _ => E0
theorem paN {X : Cx} : ∀ σ, PassesAt (L2.CX X.prog X.w) X σ (En σ) := fun _ _ _ _ _ _ _ h => by
  obtain ⟨_, _, _, _, _, _, _, _, _, _, _, _, z⟩ := h
  exact z.elim
/-- room for k calls, no repr running -/
structure Rm (k : Nat) (A : Around) : Prop where
  r : Room k A
  g : A.guards = some []
theorem Rm.mono {j k : Nat} {A : Around} (h : Rm k A) (l : j ≤ k) : Rm j A := ⟨h.r.mono l, h.g⟩
def uCall (sp : Sp) (dvs : List V) (E : L2.St → XK) (t : TA) : TE := fun σ H Q => t σ H fun vs H1 => sp (vs ++ dvs) H1 Q (E σ)
section
variable {X : Cx} {k : Nat} {f C : Addr} {fd : FuncData} {ps : List Str} {sp : Sp} {E : L2.St → XK} {x m : Str} {p pos apos : Pos} {e o : Expr} {es : List Expr} {t : TA} {ta : TE} {dvs : List V} {ds : List Value}
theorem run_cal {pins : List (Addr × Obj)} {σ : L2.St} {H : Hp} {s : Shared} {Q : VK} {us : List Value} {vs : List V} (F : FnG X.prog X.w X.K X.mg X.base k f fd ps sp) (hr : Rm k X.A) (hb : Binds X.K fd ps ds) (hd : Vals dvs ds)
    (hx : PassesAt (L2.CX X.prog X.w) X σ (E σ)) (I : Inv X pins σ H s) (r : Vals vs us) (h : sp (vs ++ dvs) H Q (E σ)) : wpAny (model X.prog X.w) X.A (call (.ref f) us) (EP X pins σ Q) X.xe s := by
  have rr : Vals (vs ++ dvs) (us ++ ds) := r.append hd
  have ll : (us ++ ds).length = ps.length := rr.length.symm.trans (F.len _ _ _ _ h)
  refine wpAny_call (codeAny_mono (F.run X.A X.stack s H ⟨us, []⟩ (us ++ ds) (vs ++ dvs) Q (E σ) hr.r hr.g I.env0 (hb s us I.kIn ll) rr h) fun q s' hq => ?_)
  match q, hq with
  | .error er, hq => exact hx pins H s er s' I hq
  | .ok (.ret u), hq => exact I.after hq
  | .ok .next, hq => exact hq.elim
  | .ok .brk, hq => exact hq.elim
  | .ok .cont, hq => exact hq.elim
theorem pe_c (c : Cal X.prog X.w X.K X.mg X.base k x ps dvs sp) (hr : Rm k X.A) (hx : ∀ σ, PassesAt (L2.CX X.prog X.w) X σ (E σ)) (ha : PA X (e :: es) t) (hg : Gl X x := by rfl) (hdb : (x == ("__debug__" : Str)) = false := by decide)
    (he : starEach (e :: es) X.env = (false, eval e X.env) :: starEach es X.env := by rfl) (hpl : (backTo pos (starEach es X.env)).any (·.1) = false := by rfl) : PE X (.Call (.Name x p) (e :: es) [] pos) (uCall sp dvs E t) := by
  obtain ⟨f, fd, ds, F, hm, hk, hb, hd⟩ := c.ex
  exact ⟨fun pins s σ H Q I h => wpAny_Call_Name_kw (ld_glob I hg hm (PySem.W.callWith_K (h₀ := X.base) I.ok.mod.kin hk (thn (ha.run pos pins s σ H _ I h) fun us s1 z => by
    obtain ⟨vs, H1, I1, r, q⟩ := z
    exact ⟨I1.kIn, run_cal F hr hb hd (hx σ) I1 r q⟩) he hpl) hdb)⟩
theorem pe_c0 (c : Cal X.prog X.w X.K X.mg X.base k x ps dvs sp) (hr : Rm k X.A) (hx : ∀ σ, PassesAt (L2.CX X.prog X.w) X σ (E σ)) (hg : Gl X x := by rfl) (hdb : (x == ("__debug__" : Str)) = false := by decide) :
    PE X (.Call (.Name x p) [] [] pos) (uCall sp dvs E tNil) := by
  obtain ⟨f, fd, ds, F, hm, hk, hb, hd⟩ := c.ex
  exact ⟨fun pins s σ H Q I h => wpAny_Call_Name_kw (ld_glob I hg hm (PySem.W.callWith_K0 I.kIn hk (run_cal (us := []) F hr hb hd (hx σ) I .nil h)) hdb)⟩
end

/-! ### operators that look at the kinds themselves -/
def uAdd (K : PySem.W.Frag) : R2 := fun x y H Q => match x, y with
  | .int i, .int j => Q (.int (i + j)) H
  | .str a, .str b => a.length + b.length ≤ sizeLine ∧ Q (.str (a ++ b)) H
  | .ref a, .ref b => rCat (.ref a) (.ref b) H Q ∨ rCatA K (.ref a) (.ref b) H Q
  | _, _ => False
def uMul (K : PySem.W.Frag) : R2 := fun x y H Q => match x, y with
  | .int i, .int j => (CMul i j ∨ CMulW i j) ∧ Q (.int (i * j)) H
  | .str a, .int n => MulOk a n ∧ Q (.str (Txt.mul a n)) H
  | .ref a, .int n => rRep (.ref a) (.int n) H Q ∨ rRepT K (.ref a) (.int n) H Q
  | _, _ => False
def uDiv : R2 := fun x y H Q => match x, y with
  | .int i, .int j => (j ≠ 0 ∧ j.natAbs.log2 < 9000) ∧ Q (.int (i.fdiv j)) H
  | _, _ => False
def uEq (K : PySem.W.Frag) : R2 := fun x y H Q => match x, y with
  | .int i, .int j => Q (.bl (decide (i = j))) H
  | .str a, .str b => Q (.bl (decide (a = b))) H
  | .bl a, .bl b => Q (.bl (decide (a = b))) H
  | x, y => rEqD K x y H Q
def uNe (K : PySem.W.Frag) : R2 := fun x y H Q => match x, y with
  | .int i, .int j => Q (.bl (!decide (i = j))) H
  | .str a, .str b => Q (.bl (!decide (a = b))) H
  | .bl a, .bl b => Q (.bl (!decide (a = b))) H
  | x, y => rNeD K x y H Q
section
variable {X : Cx}
theorem op_uAdd : OpR X (binaryOp .Add) (uAdd X.K) := by
  intro pins s σ H x y u v Q I rx ry h
  cases x with
  | int i =>
    cases y with
    | int j => exact op_add pins s σ H _ _ _ _ Q I rx ry ⟨i, j, rfl, rfl, h⟩
    | _ => exact h.elim
  | str a =>
    cases y with
    | str b => exact op_add_str pins s σ H _ _ _ _ Q I rx ry ⟨a, b, rfl, rfl, h⟩
    | _ => exact h.elim
  | ref a =>
    cases y with
    | ref b =>
      rcases h with h | h
      · exact op_cat pins s σ H _ _ _ _ Q I rx ry h
      · exact op_catA pins s σ H _ _ _ _ Q I rx ry h
    | _ => exact h.elim
  | _ => exact h.elim
theorem op_uMul : OpR X (binaryOp .Mult) (uMul X.K) := by
  intro pins s σ H x y u v Q I rx ry h
  cases x with
  | int i =>
    cases y with
    | int j =>
      obtain ⟨c | c, q⟩ := h
      · exact op_mul pins s σ H _ _ _ _ Q I rx ry ⟨i, j, rfl, rfl, c, q⟩
      · exact op_mulW pins s σ H _ _ _ _ Q I rx ry ⟨i, j, rfl, rfl, c, q⟩
    | _ => exact h.elim
  | str a =>
    cases y with
    | int n =>
      obtain ⟨c, q⟩ := h
      obtain ⟨t, rfl⟩ := rx
      obtain ⟨t', rfl⟩ := ry
      exact SB.mul c fun t2 k => ⟨.str _, H, I.tok _, ⟨_, rfl⟩, q⟩
    | _ => exact h.elim
  | ref a =>
    cases y with
    | int n =>
      rcases h with h | h
      · exact op_rep pins s σ H _ _ _ _ Q I rx ry h
      · exact op_repT pins s σ H _ _ _ _ Q I rx ry h
    | _ => exact h.elim
  | _ => exact h.elim
theorem op_uDiv : OpR X (binaryOp .FloorDiv) uDiv := by
  intro pins s σ H x y u v Q I rx ry h
  cases x with
  | int i =>
    cases y with
    | int j =>
      obtain ⟨c, q⟩ := h
      obtain ⟨t, rfl⟩ := rx
      obtain ⟨t', rfl⟩ := ry
      exact PyProof.Rows.floordiv_int c.1 ⟨.int _, H, I.tok _, ⟨_, rfl⟩, q⟩ (.inl (PyProof.noPylong_of_log2 c.2))
    | _ => exact h.elim
  | _ => exact h.elim
theorem dec_int (i j : Int) : decide (V.int i = V.int j) = decide (i = j) := decide_eq_decide.mpr ⟨fun e => V.int.inj e, fun e => by rw [e]⟩
theorem dec_str (i j : Str) : decide (V.str i = V.str j) = decide (i = j) := decide_eq_decide.mpr ⟨fun e => V.str.inj e, fun e => by rw [e]⟩
theorem dec_bl (i j : Bool) : decide (V.bl i = V.bl j) = decide (i = j) := decide_eq_decide.mpr ⟨fun e => V.bl.inj e, fun e => by rw [e]⟩
theorem op_uEq (hu : X.A.units + 64 < cLine) : OpR X (compareOp .Eq) (uEq X.K) := by
  intro pins s σ H x y u v Q I rx ry h
  cases x with
  | int i =>
    cases y with
    | int j => exact op_eq pins s σ H _ _ _ _ Q I rx ry ⟨rfl, by rw [dec_int]; exact h⟩
    | _ => exact op_eqD hu pins s σ H _ _ _ _ Q I rx ry h
  | str i =>
    cases y with
    | str j => exact op_eq pins s σ H _ _ _ _ Q I rx ry ⟨rfl, by rw [dec_str]; exact h⟩
    | _ => exact op_eqD hu pins s σ H _ _ _ _ Q I rx ry h
  | bl i =>
    cases y with
    | bl j => exact op_eq pins s σ H _ _ _ _ Q I rx ry ⟨rfl, by rw [dec_bl]; exact h⟩
    | _ => exact op_eqD hu pins s σ H _ _ _ _ Q I rx ry h
  | _ => exact op_eqD hu pins s σ H _ _ _ _ Q I rx ry h
theorem op_uNe (hu : X.A.units + 64 < cLine) : OpR X (compareOp .NotEq) (uNe X.K) := by
  intro pins s σ H x y u v Q I rx ry h
  cases x with
  | int i =>
    cases y with
    | int j => exact op_ne pins s σ H _ _ _ _ Q I rx ry ⟨rfl, by rw [dec_int]; exact h⟩
    | _ => exact op_neD hu pins s σ H _ _ _ _ Q I rx ry h
  | str i =>
    cases y with
    | str j => exact op_ne pins s σ H _ _ _ _ Q I rx ry ⟨rfl, by rw [dec_str]; exact h⟩
    | _ => exact op_neD hu pins s σ H _ _ _ _ Q I rx ry h
  | bl i =>
    cases y with
    | bl j => exact op_ne pins s σ H _ _ _ _ Q I rx ry ⟨rfl, by rw [dec_bl]; exact h⟩
    | _ => exact op_neD hu pins s σ H _ _ _ _ Q I rx ry h
  | _ => exact op_neD hu pins s σ H _ _ _ _ Q I rx ry h
end
end Uv

set_option Elab.async false
set_option linter.all false
set_option maxRecDepth 100000
set_option maxHeartbeats 4000000
namespace Xc
open PySem PySem.W PySem.Calls PyProof.Rows PySem.HandSPX

/-! ### the text of such an __init__: super().__init__(msg); self.f = f; .. -/
/-- self.f = f -/
def sto (f : Str) (q1 q2 q3 q4 : Pos) : Stmt := .Assign [.Attribute (.Name "self" q1) f q2] (.Name f q3) q4
inductive Stos : List Stmt → List Str → Prop
  | nil : Stos [] []
  | cons {ss : List Stmt} {fs : List Str} (f : Str) (q1 q2 q3 q4 : Pos) (r : Stos ss fs) : Stos (sto f q1 q2 q3 q4 :: ss) (f :: fs)
/-- super().__init__(msg) -/
def sup (msg : Str) (k : Nat) (p0 p1 p2 p3 p4 p5 : Pos) : Stmt := .Expr (.Call (.Attribute (.Call (.Name "super" p0) [] [] p1) "__init__" p2) [.Constant (.str msg) k p3] [] p4) p5
def argOf (f : Str) (p : Pos) : Arg := { arg := f, annotation := none, pos := p }
/-- what the written part says of the class at C (named x), its __init__ at fI -/
structure Txt (P : Program) (K : Frag) (mg : Str → Option Value) (x : Str) (fs : List Str) (C : Addr) : Prop where
  gC : mg x = some (.ref C)
  cls : ∃ nm q N bs bm sn sub ab col dd k0 k1 k2 k3 k5, K.lookup C = some (excClassObj nm q C N bs bm true sn sub ab col dd k0 k1 k2 k3 k5 "ValueError.__new__") ∧ refsVE bm = true
  sa : findIn K (.ref C) "__setattr__" = some (some (.builtin "object.__setattr__"))
  ga : findIn K (.ref C) "__getattribute__" = some (some (.builtin "BaseException.__getattribute__"))
  gg : findIn K (.ref C) "__getattr__" = some none
  noF : ∀ f ∈ fs, findIn K (.ref C) f = some none
  kC : keepIn K (.ref C) = true
  exC : subIn K (.ref C) (.type "BaseException") = some true
  veC : subIn K (.ref C) (.type "ValueError") = some true
  tyC : typeIn K (.ref C) = some (.type "type")
  hdC : hasDictIn K C = true
  self : mroIn K C (.ref C) = some true
  up : ks_superIn K C C "__init__" = some (some (.builtin "ValueError.__init__"))
  opq : nsIn K cStatics "thirdparty.any" = some none
  sup : mg "super" = none
  nd : ("self" :: fs : List Str).Nodup
  file : (P.main.scope.names.lookup ("super" : Str)).isSome = false
  fn : ∃ (fI cda cc : Addr) (oc : Value) (od : Option Addr) (osl : Array (Option Value)) (dV kV doc pm : Value) (an : Option Addr) (ct : Value) (msg : Str) (k : Nat) (p0 p1 p2 p3 p4 p5 : Pos) (ss : List Stmt) (ar : Arguments) (sc : Scope) (pa : Arg),
    findIn K (.ref C) "__init__" = some (some (.ref fI)) ∧ typeIn K (.ref fI) = some (.type "function") ∧ Stos ss fs ∧
    K.lookup fI = some ⟨oc, od, .func (ksFn "__init__" (x ++ ".__init__") ar (Xc.sup msg k p0 p1 p2 p3 p4 p5 :: ss) sc dV kV doc pm an (.ref cda) ct cc), osl⟩ ∧
    (ar.posonlyargs ++ ar.args).head? = some pa ∧ pa.arg = "self" ∧
    (∀ us : List Value, us.length = fs.length + 1 → bindArgs (ksFn "__init__" (x ++ ".__init__") ar (Xc.sup msg k p0 p1 p2 p3 p4 p5 :: ss) sc dV kV doc pm an (.ref cda) ct cc) ⟨us, []⟩ = pure ((("self" : Str) :: fs).zip us)) ∧
    (sc.kind = .function ∧ sc.isCoroutine = false ∧ sc.isGenerator = false ∧ (∀ y ∈ sc.names, y.2 ≠ .cell) ∧ sc.names.lookup ("self" : Str) = some .local ∧ (∀ f ∈ fs, sc.names.lookup f = some .local ∧ (f == ("__debug__" : Str)) = false) ∧
      sc.names.lookup ("super" : Str) = some .globalImplicit ∧ sc.names.lookup ("__class__" : Str) = some .free) ∧
    codeIn K (.ref cda) (x ++ ".__init__") = true ∧ (p2.endLine == p4.line) = true ∧
    (∃ ccl cdd vs ccs file tf, K.lookup cda = some ⟨ccl, cdd, .fields vs, ccs⟩ ∧ vs[2]? = some (.str file tf) ∧ ((P.main.file : Str) == file) = true) ∧
    ∃ cl cld csl, K.lookup cc = some ⟨cl, cld, .cell (some (.ref C)), csl⟩

theorem ldm {M : Model} {s : Shared} {env : Env} {m : Str → Option Value} {x : Str} {pos : Pos} {v : Value} {Q : Value → Shared → Prop} {A : Around} {E : Value → Shared → Prop} (hn : s.heap.Ns env.locals m) (hv : m x = some v) (h : Q v s)
    (hk : env.scope.kind = .function) (hl : env.kindOf x = some .local) (hd : (x == ("__debug__" : Str)) = false) : wpAny M A (eval (.Name x pos) env) Q E s := wpAny_Name (wpAny_loadName_local hk hl hn hv h) hd

section
variable {prog : Program} {w : World} {A : Around} {E : Value → Shared → Prop} {h : Heap} {g : Array GenState} {d : Drawn} {t : Nat} {os : OsState}
variable {nm q : Str} {C N : Addr} {bs bm : List Value} {sn : List Str} {sub : List Value} {ab : Bool} {col : Option Bool} {dd : Option Addr} {k0 k1 k2 k3 k5 : Option Value}
/-- the bound built-in __init__ called -/
theorem call_wrap {u e t0 : Addr} {rest : List Value} {Q : Value → Shared → Prop}
    (hC : h.get? C = some (excClassObj nm q C N bs bm true sn sub ab col dd k0 k1 k2 k3 k5 "ValueError.__new__")) (he : h.get? e = some (excO C t0)) (hu : h.get? u = some (kxs_mw "ValueError.__init__" e)) (hrest : rest.length ≤ sizeLine)
    (hq : ∀ h' t1, (∀ b o, b ≠ e → h.get? b = some o → h'.get? b = some o) → h'.get? e = some (excO C t1) → Q .none ⟨h', g, d, t, os⟩) :
    wpAny (model prog w) A (call (.ref u) rest) Q E ⟨h, g, d, t, os⟩ := by
  refine wpAny_call (codeAny_of_tree ?_)
  show wpAny _ A.in1 (callAny (.ref u) ⟨rest, []⟩) _ _ _
  simp only [callAny]
  refine wpAny_bind (wpAny_load hu ?_)
  simp only [kxs_mw, show (Value.type "method-wrapper" == Value.type "method" || Value.type "method-wrapper" == Value.type "builtin_function_or_method" || Value.type "method-wrapper" == Value.type "method-wrapper") = true by decide, if_true]
  refine KFB.if_so (by decide) ?_
  refine wpAny_bind (check_bound_init F.excBase_ValueError.toExcCallFacts hC he rfl ?_)
  refine wpAny_bind (wpAny_pure (wpAny_pure ?_))
  refine ⟨plainId_quiet F.excBase_ValueError.init.plain _, codeAny_builtin F.excBase_ValueError.initEntry ?_⟩
  exact exc_init_tree (cls := .ref C) (t0 := t0) (dv := none) (c2 := .none) (c3 := .none) (b4 := .bool false) he hrest fun h' k e' _ => hq h' _ k e'
end

section
variable {prog : Program} {w : World} {A : Around} {E : Value → Shared → Prop} {s : Shared} {K : Frag} {C : Addr}
/-- the stores behind the first -/
theorem more {env : Env} {x dx t1 : Addr} {Q : Flow → Shared → Prop} {nmC qC : Str} {N : Addr} {bs bm : List Value} {sn : List Str} {sub : List Value} {ab : Bool} {col : Option Bool}
    (hcl : clsIn K C = some { name := nmC, bases := bs, mro := .ref C :: bm, ns := N, qualname := qC, hasDict := true, slotNames := sn, subclasses := sub, abstract := ab, collection := col, hasDel := false }) (hbm : refsVE bm = true)
    (sa : findIn K (.ref C) "__setattr__" = some (some (.builtin "object.__setattr__")))
    (hk : env.scope.kind = .function) (hself : env.kindOf "self" = some .local) {m : Str → Option Value} (ms : m "self" = some (.ref x)) :
    ∀ (ss : List Stmt) (fs : List Str) (us : List Value) (s : Shared) (nl : List Str) (m0 : Str → Option Value) (ps : List (Str × L2.V)) (vs : List L2.V), Stos ss fs → K.In s.heap → (∀ f ∈ fs, findIn K (.ref C) f = some none ∧ env.kindOf f = some .local ∧ (f == ("__debug__" : Str)) = false) →
      fs.map m = us.map some → Paired L2.RelV vs us → s.heap.Ns env.locals m → dx ≠ env.locals → K.lookup dx = none → s.heap.get? x = some { cls := .ref C, dict := some dx, data := .fields #[.ref t1, .none, .none, .none, .bool false, .none] } → s.heap.Ns1 dx m0 → dx ≠ x → Within m0 nl → nl.length + fs.length ≤ 900 →
      (∀ f, L2.RelO (ps.lookup f) (m0 f)) →
      (∀ h' tk mA, (∀ b o, b ≠ dx → s.heap.get? b = some o → h'.get? b = some o) → h'.Ns1 dx mA → (∀ f, L2.RelO (((fs.zip vs).reverse ++ ps).lookup f) (mA f)) → Q .next { s with heap := h', toks := tk }) →
      wpAny (model prog w) A (execs ss env) Q E s := by
  intro ss
  induction ss with
  | nil =>
    intro fs us s nl m0 ps vs S X _ _ _ _ _ _ hx hn _ _ _ rel hq
    cases S
    exact wpAny_execs_nil (hq s.heap s.toks m0 (fun _ _ _ e => e) hn (by simpa using rel))
  | cons st ss ih =>
    intro fs us s nl m0 ps vs S X hf hm hv hns hdl hkd hx hn hdx hw hz rel hq
    cases S with
    | @cons _ fs' f q1 q2 q3 q4 r =>
    match us, vs, hv, hm with
    | u :: us, v :: vs, .cons rv rvs, hm =>
    have hmu : m f = some u := by simpa using congrArg List.head? hm
    have hmr : fs'.map m = us.map some := by simpa using congrArg List.tail hm
    obtain ⟨nof, kf, df⟩ := hf f List.mem_cons_self
    refine wpAny_execs_cons (plainObj_wpAny_Assign_Attribute ?_)
    refine ldm hns hmu (ldm hns ms ?_ hk hself (by decide)) hk kf df
    obtain ⟨oD, esD, epD, hoD, hdD, _⟩ := hn.count hw
    obtain ⟨hp, g, d, t, os⟩ := s
    refine set_plain X (ox := { cls := .ref C, dict := some dx, data := .fields #[.ref t1, .none, .none, .none, .bool false, .none] }) (od := some oD) ⟨hx, rfl, rfl, hoD⟩ sa ?_
    refine PySem.OEX.osa_old X hx hn hw (by simp only [List.length_cons] at hz; omega) hcl (show refsVE (.ref C :: bm) = true from hbm) rfl nof fun h' tk' k hn' => ?_
    refine ih fs' us ⟨h', g, d, tk', os⟩ (f :: nl) _ ((f, v) :: ps) vs r (fun a o e => k a o (fun z => by rw [z, hkd] at e; cases e) (X a o e)) (fun y hy => hf y (List.mem_cons_of_mem _ hy)) hmr rvs ?_ hdl hkd ?_ hn' hdx (Within.cons f u hw) (by simp only [List.length_cons] at hz ⊢; omega) (L2.relO_put rv rel) ?_
    · obtain ⟨o, es, ep, ho, hr⟩ := hns
      exact ⟨o, es, ep, k _ _ (Ne.symm hdl) ho, hr⟩
    · exact k _ _ (Ne.symm hdx) hx
    · intro h2 tk2 mA k2 hn2 rel2
      refine hq h2 tk2 mA (fun b o hb e => k2 b o hb (k b o hb e)) hn2 fun y => ?_
      have z := rel2 y
      simpa [List.append_assoc] using z
/-- a made exception of the class at C with its fields -/
structure Made (h h' : Heap) (e C d : Addr) (fs : List Str) (vs : List L2.V) : Prop where
  keep : ∀ b o, h.get? b = some o → h'.get? b = some o
  new : h.objs.size ≤ e
  obj : ∃ oe vs, h'.get? e = some oe ∧ oe.cls = .ref C ∧ oe.dict = some d ∧ oe.data = .fields vs ∧ vs[1]? = some .none
  dbig : h.objs.size ≤ d
  dne : d ≠ e
  ns : ∃ mA, h'.Ns1 d mA ∧ ∀ f, L2.RelO ((fs.zip vs).reverse.lookup f) (mA f)
theorem lookup_zip : ∀ {ns : List Str} {us : List Value} {i : Nat} {n : Str} {u : Value}, ns.Nodup → ns[i]? = some n → us[i]? = some u → ns.length = us.length → (ns.zip us).lookup n = some u
  | [], _, i, _, _, _, h, _, _ => by simp at h
  | n :: ns, [], i, _, _, _, _, h, _ => by simp at h
  | n :: ns, u :: us, 0, _, _, _, h1, h2, _ => by
    simp at h1 h2
    subst h1 h2
    simp [List.lookup]
  | n :: ns, u :: us, i + 1, n', u', nd, h1, h2, hl => by
    have h1' : ns[i]? = some n' := by simpa using h1
    have nn : n' ≠ n := fun e => by
      have z := (List.nodup_cons.mp nd).1
      rw [← e] at z
      exact z (List.mem_of_getElem? h1')
    have q : (n' == n) = false := by simpa using nn
    show List.lookup n' ((n, u) :: ns.zip us) = some u'
    simp only [List.lookup, q]
    exact lookup_zip (List.nodup_cons.mp nd).2 h1' (by simpa using h2) (by simpa using hl)
theorem lookup_none : ∀ {l : List (Str × Value)} {n : Str}, n ∉ l.map (·.1) → l.lookup n = none
  | [], _, _ => rfl
  | (a, b) :: l, n, h => by
    have q : (n == a) = false := by simpa using fun e : n = a => h (by simp [e])
    simp only [List.lookup, q]
    exact lookup_none fun z => h (by simp [z])
theorem lookup_append : ∀ {l r : List (Str × Value)} {n : Str}, (l ++ r).lookup n = (l.lookup n).or (r.lookup n)
  | [], _, _ => by simp
  | (a, b) :: l, r, n => by
    show List.lookup n ((a, b) :: (l ++ r)) = _
    cases q : (n == a) with
    | true => simp [List.lookup, q]
    | false => simp only [List.lookup, q]; exact lookup_append
theorem lookup_rev {n : Str} : ∀ {l : List (Str × Value)}, (l.map (·.1)).Nodup → l.reverse.lookup n = l.lookup n
  | [], _ => rfl
  | (a, b) :: l, nd => by
    have nd' : a ∉ l.map (·.1) ∧ (l.map (·.1)).Nodup := List.nodup_cons.mp (by simpa using nd)
    rw [List.reverse_cons, lookup_append, lookup_rev nd'.2]
    cases q : (n == a) with
    | true =>
      have e : n = a := by simpa using q
      subst e
      rw [lookup_none nd'.1]
      simp [List.lookup]
    | false => simp [List.lookup, q]
theorem zip_fst : ∀ {ns : List Str} {us : List Value}, ns.length = us.length → (ns.zip us).map (·.1) = ns
  | [], [], _ => rfl
  | [], _ :: _, h => by simp at h
  | _ :: _, [], h => by simp at h
  | n :: ns, u :: us, h => by
    show n :: (ns.zip us).map (·.1) = n :: ns
    rw [zip_fst (by simpa using h)]
theorem bind_at {ns : List Str} {us : List Value} {i : Nat} {n : Str} {u : Value} (nd : ns.Nodup) (h1 : ns[i]? = some n) (h2 : us[i]? = some u) (hl : ns.length = us.length) : (ns.zip us).reverse.lookup n = some u := by
  rw [lookup_rev (by rw [zip_fst hl]; exact nd)]
  exact lookup_zip nd h1 h2 hl

theorem made {x : Str} {fs : List Str} {P : Program} {mg mb : Str → Option Value} {R : Result → Shared → Prop} {us : List Value} {vs : List L2.V} (T : Txt P K mg x fs C) (X : K.In s.heap) (hlim : s.heap.NoLimit) (hg : s.heap.Ns mainGlobals mg) (hb : s.heap.Ns builtinsNs mb)
    (mbs : mb "super" = some (.type "super")) (hroom : A.depth + 1 < recursionLimit) (hl : us.length = fs.length) (r : Paired L2.RelV vs us) (hne : fs ≠ []) (hz : fs.length ≤ 100)
    (hq : ∀ h' tk e d, Made s.heap h' e C d fs vs → R (.ok (.ret (.ref e))) { s with heap := h', toks := tk }) : codeAny (model P w) A (.call (.ref C) ⟨us, []⟩) R s := by
  obtain ⟨nm, q, N, bs, bm, sn, sub, ab, col, dd, k0, k1, k2, k3, k5, hC, hbm⟩ := T.cls
  obtain ⟨fI, cda, cc, oc, od, osl, dV, kV, doc, pm, an, ct, msg, kk, p0, p1, p2, p3, p4, p5, ss, ar, sc, pa, iC, tC, hss, ho, hpa, hpn, hbind, ⟨sk, sco, sge, snc, sself, sfs, ssup, scls⟩, hcd, hli, ⟨ccl, cdd, cvs, ccs, file, tf, lcd, hfi, hfe⟩, cl, cld, csl, lcc⟩ := T.fn
  have hcl : clsIn K C = some { name := nm, bases := bs, mro := .ref C :: bm, ns := N, qualname := q, hasDict := true, slotNames := sn, subclasses := sub, abstract := ab, collection := col, hasDel := false } := by unfold clsIn; rw [hC] <;> rfl
  have husz : us.length ≤ sizeLine := by rw [hl, sizeLine_eq]; omega
  obtain ⟨hp, g, dr, tk, os⟩ := s
  have k : ∀ b o, hp.get? b = some o → ((hp.push (kdv_tup us)).push (excO C hp.objs.size)).get? b = some o := fun b o e => Heap.get?_push_of_some _ (Heap.get?_push_of_some _ e)
  have hget : ((hp.push (kdv_tup us)).push (excO C hp.objs.size)).get? (hp.objs.size + 1) = some (excO C hp.objs.size) := by heap_get
  have hnx : ∀ b, hp.objs.size ≤ b → K.lookup b = none := fun b hb => by
    cases e : K.lookup b with
    | none => rfl
    | some o => exact absurd (Nat.lt_of_lt_of_le (Heap.lt_size (X _ _ e)) hb) (Nat.lt_irrefl _)
  refine call_own F.excBase_ValueError (fun Y => refsVE_contains Y bm hbm) (X _ _ hC) (looks_findIn X iC) (fun self => bind_fn X self tC) husz ?_
  -- into __init__
  obtain ⟨e, he⟩ : ∃ e, e = hp.objs.size + 1 := ⟨_, rfl⟩
  rw [← he] at hget ⊢
  obtain ⟨hA, hAe⟩ : ∃ hA, hA = (hp.push (kdv_tup us)).push (excO C hp.objs.size) := ⟨_, rfl⟩
  rw [← hAe] at hget ⊢
  have k : ∀ b o, hp.get? b = some o → hA.get? b = some o := by rw [hAe]; exact k
  have XA : K.In hA := fun a o z => k a o (X a o z)
  have eb : hp.objs.size ≤ e := by rw [he]; exact Nat.le_succ _
  have hsz : hA.objs.size = hp.objs.size + 2 := by rw [hAe, Heap.size_push, Heap.size_push]
  have ulen : (Value.ref e :: us).length = fs.length + 1 := by simp [hl]
  have nlen : (("self" : Str) :: fs).length = (Value.ref e :: us).length := by simp [hl]
  refine ks_codeAny_call_defAt (body := Xc.sup msg kk p0 p1 p2 p3 p4 p5 :: ss) (binds := (("self" : Str) :: fs).zip (Value.ref e :: us)) ?_ (XA _ _ ho) rfl (hlim.keeps k) (codeRec_of XA hcd) rfl (BindsTo.of_eq (hbind _ ulen)) snc ?_ (fun h0 hns0 k0 => ?_) sco sge sk
  · show A.depth + 1 < recursionLimit
    exact hroom
  · intro y hy
    have z : y.1 ∈ ("self" : Str) :: fs := by
      have z2 : y.1 ∈ ((("self" : Str) :: fs).zip (Value.ref e :: us)).map (·.1) := List.mem_map_of_mem hy
      rw [zip_fst nlen] at z2
      exact z2
    rcases List.mem_cons.mp z with z | z
    · rw [z]; exact sself
    · exact (sfs _ z).1
  obtain ⟨env, henv⟩ : ∃ env, env = callEnv (ksFn "__init__" (x ++ ".__init__") ar (Xc.sup msg kk p0 p1 p2 p3 p4 p5 :: ss) sc dV kV doc pm an (.ref cda) ct cc) hA.objs.size fI := ⟨_, rfl⟩
  rw [← henv]
  have eks : env.kindOf "super" = some .globalImplicit := by rw [henv]; exact ssup
  have ekc : env.kindOf "__class__" = some .free := by rw [henv]; exact scls
  have eself : env.kindOf "self" = some .local := by rw [henv]; exact sself
  have ekf : ∀ f ∈ fs, env.kindOf f = some .local := fun f hf => by rw [henv]; exact (sfs f hf).1
  have esk : env.scope.kind = .function := by rw [henv]; exact sk
  have eloc : env.locals = hA.objs.size := by rw [henv]; rfl
  have efu : env.func = some fI := by rw [henv]; rfl
  have eco : env.code = .ref cda := by rw [henv]; rfl
  have egl : env.globals = mainGlobals := by rw [henv]; rfl
  have ebn : env.builtins = builtinsNs := by rw [henv]; rfl
  have ecl : env.cells.lookup ("__class__" : Str) = some cc := by rw [henv]; rfl
  have X0 : K.In h0 := fun a o z => k0 a o (XA a o z)
  have kk0 : ∀ b o, hp.get? b = some o → h0.get? b = some o := fun b o z => k0 b o (k b o z)
  have he0 := k0 _ _ hget
  obtain ⟨m, hm⟩ : ∃ m : Str → Option Value, m = fun y => ((("self" : Str) :: fs).zip (Value.ref e :: us)).reverse.lookup y := ⟨_, rfl⟩
  have hns0 : h0.Ns env.locals m := by rw [hm, eloc]; exact hns0
  have mself : m "self" = some (.ref e) := by
    rw [hm]
    exact bind_at (i := 0) T.nd rfl rfl nlen
  have mfs : fs.map m = us.map some := by
    refine List.ext_getElem? fun i => ?_
    rw [List.getElem?_map, List.getElem?_map]
    cases h1 : fs[i]? with
    | none =>
      have z : us[i]? = none := List.getElem?_eq_none_iff.mpr (by have := List.getElem?_eq_none_iff.mp h1; omega)
      rw [z]
      rfl
    | some f =>
      have hi := (List.getElem?_eq_some_iff.mp h1).1
      have z : us[i]? = some us[i] := List.getElem?_eq_getElem (by omega)
      rw [z]
      show some (m f) = some (some us[i])
      rw [hm]
      exact congrArg some (bind_at (i := i + 1) T.nd (by simpa using h1) (by simpa using z) nlen)
  refine ks_wpAt_execs_cons (ks_wpAt_Expr_any ?_ (by rw [henv]; show interactive _ = false; simp [interactive, callEnv, newEnv, sk]) rfl)
  have hev : eval (.Call (.Attribute (.Call (.Name "super" p0) [] [] p1) "__init__" p2) [.Constant (.str msg) kk p3] [] p4) env = (do
      let ov ← attributeBase (.Call (.Name "super" p0) [] [] p1) "__init__" env (eval (.Call (.Name "super" p0) [] [] p1) env)
      standAt p2.atName
      let (f, first) ← holding [ov] (getMethod ov "__init__" (L2.plainOf (.Call (.Name "super" p0) [] [] p1) env))
      callWith p4 f first (backTo p4 (starEach [.Constant (.str msg) kk p3] env)) []) := by
    show (do
      let ov ← attributeBase (.Call (.Name "super" p0) [] [] p1) "__init__" env (eval (.Call (.Name "super" p0) [] [] p1) env)
      standAt p2.atName
      methodCall (.Call (.Name "super" p0) [] [] p1) "__init__" p2 p4 env ov 1 (backTo p4 (starEach [.Constant (.str msg) kk p3] env)) (backToKw p4 (keywordEach [] env))) = _
    refine congrArg _ (funext fun ov => ?_)
    refine congrArg _ (funext fun _ => ?_)
    exact L2.mcall_line rfl hli
  refine ks_wpAt_MethodCall ?_ hev
  refine ks_wpAt_super_base eks ekc (by decide) efu (X0 _ _ ho) rfl hpa eco (X0 _ _ lcd) rfl hfi hfe T.file ?_
  refine ks_loadName_global esk eks (loadGlobal_builtin (by rw [egl]; exact hg.keeps kk0) T.sup (by rw [ebn]; exact hb.keeps kk0) mbs ⟨rfl, ?_⟩)
  refine wpAny_loadName_free esk ekc ecl ⟨_, X0 _ _ lcc, rfl⟩ ?_
  rw [hpn]
  refine wpAny_loadName_local esk eself hns0 mself ?_
  have oC := X0 _ _ hC
  refine ks_wpAny_isType_cls oC rfl ⟨rfl, ?_⟩
  refine ks_wpAny_call_super oC rfl he0 rfl (fun c z => by cases z) (looks_mroIn X0 T.self) (fun h1 eso k1 => ?_)
  have X1 : K.In h1 := fun a o z => k1 a o (X0 a o z)
  have he1 := k1 _ _ he0
  have I1 : InstAt h1 e (excO C hp.objs.size) C none := ⟨he1, rfl, rfl, trivial⟩
  have hf : alongIn K "__init__" ((Value.ref C :: bm).dropWhile (· != .ref C) |>.drop 1) = some (some (.builtin "ValueError.__init__")) := by
    have z := T.up
    unfold ks_superIn at z
    rw [hcl] at z
    exact z
  have neC : e ≠ C := fun z => by
    have y := hnx e eb
    rw [z, hC] at y
    cases y
  refine kxs_getMethod kxs_ValueError eso (looks_opaque X1 T.opq) ((looks_clsIn X1 hcl).andThen .now) rfl X1 hf (I1.type.andThen (looks_subIn X1 T.veC)) neC (by decide) ?_
  obtain ⟨u, hu⟩ : ∃ u, u = h1.objs.size := ⟨_, rfl⟩
  have k2 : ∀ b o, h1.get? b = some o → (h1.push (kxs_mw "ValueError.__init__" e)).get? b = some o := fun b o z => Heap.get?_push_of_some _ z
  have hgu : (h1.push (kxs_mw "ValueError.__init__" e)).get? u = some (kxs_mw "ValueError.__init__" e) := by rw [hu]; exact Heap.get?_push_at rfl rfl
  show wpAny _ _ (callWith p4 (.ref h1.objs.size) [] _ []) _ _ _
  rw [← hu]
  obtain ⟨h2, hh2⟩ : ∃ h2, h2 = h1.push (kxs_mw "ValueError.__init__" e) := ⟨_, rfl⟩
  rw [← hh2] at hgu k2 ⊢
  refine kxs_callWith (i := "ValueError.__init__") (x := e) rfl (evalArgs_plain ?_)
  refine spliced_more (e := .Constant (.str msg) kk p3) (rest := []) ?_
  refine Calls.Constant_str (spliced_none ⟨hgu, ?_⟩)
  have k02 : ∀ b o, h0.get? b = some o → h2.get? b = some o := fun b o z => k2 b o (k1 b o z)
  have kp2 : ∀ b o, hp.get? b = some o → h2.get? b = some o := fun b o z => k02 b o (kk0 b o z)
  refine call_wrap (kp2 _ _ (X _ _ hC)) (k2 _ _ he1) hgu (by show 1 ≤ sizeLine; rw [sizeLine_eq]; omega) fun h3 t1 k3 he3 => ?_
  refine wpAt_of_wpAny ?_
  -- the stores
  have ne3 : ∀ {b : Addr} {o : Obj}, hp.get? b = some o → b ≠ e := fun {b o} z => Nat.ne_of_lt (Nat.lt_of_lt_of_le (Heap.lt_size z) eb)
  have kp3 : ∀ b o, hp.get? b = some o → h3.get? b = some o := fun b o z => k3 b o (ne3 z) (kp2 b o z)
  have X3 : K.In h3 := fun a o z => kp3 a o (X a o z)
  have neL : env.locals ≠ e := by
    rw [eloc, hsz, he]
    exact Nat.ne_of_gt (Nat.lt_succ_self _)
  have hns3 : h3.Ns env.locals m := by
    obtain ⟨o, es, ep, hoL, hr⟩ := hns0
    exact ⟨o, es, ep, k3 _ _ neL (k02 _ _ hoL), hr⟩
  match fs, us, vs, hss, hne, mfs, r, hl, hz, sfs, ekf, T, hq with
  | [], _, _, _, hne, _, _, _, _, _, _, _, _ => exact absurd rfl hne
  | f :: fs', [], _, _, _, _, _, hl, _, _, _, _, _ => cases hl
  | f :: fs', u0 :: us', v0 :: vs', .cons _ q1 q2 q3 q4 hss', _, mfs, .cons rv rvs, hl, hz, sfs, ekf, T, hq =>
  have hmu : m f = some u0 := by simpa using congrArg List.head? mfs
  have hmr : fs'.map m = us'.map some := by simpa using congrArg List.tail mfs
  refine wpAny_execs_cons (plainObj_wpAny_Assign_Attribute ?_)
  refine ldm hns3 hmu (ldm hns3 mself ?_ esk eself (by decide)) esk (ekf f List.mem_cons_self) (sfs f List.mem_cons_self).2
  refine set_plain X3 (ox := excO C t1) (od := none) ⟨he3, rfl, rfl, trivial⟩ T.sa ?_
  refine exc_osa X3 he3 hcl (show refsVE (.ref C :: bm) = true from hbm) rfl (T.noF f List.mem_cons_self) fun h4 tk4 dx k4 dn dne hx4 hn4 => ?_
  have d3 : ∀ {b : Addr} {o : Obj}, h3.get? b = some o → b ≠ dx := fun {b o} z => Nat.ne_of_lt (Nat.lt_of_lt_of_le (Heap.lt_size z) dn)
  have kp4 : ∀ b o, hp.get? b = some o → h4.get? b = some o := fun b o z => k4 b o (ne3 z) (kp3 b o z)
  have hdL : dx ≠ env.locals := by
    obtain ⟨o, es, ep, hoL, hr⟩ := hns3
    exact Ne.symm (d3 hoL)
  have hbig : hp.objs.size ≤ dx := by
    refine Nat.le_of_not_lt fun z => ?_
    have z2 : hA.objs.size < h3.objs.size := by
      obtain ⟨o, es, ep, hoL, hr⟩ := hns3
      rw [← eloc]
      exact Heap.lt_size hoL
    have dn' : h3.objs.size ≤ dx := dn
    rw [hsz] at z2
    clear hbind hq dn
    omega
  refine more (nmC := nm) (qC := q) (N := N) (bs := bs) (bm := bm) (t1 := t1) (x := e) (dx := dx) hcl hbm T.sa esk eself mself _ fs' us' _ [f] _ [(f, v0)] vs' hss' (fun a o z => kp4 a o (X a o z)) (fun y hy => ⟨T.noF y (List.mem_cons_of_mem _ hy), ekf y (List.mem_cons_of_mem _ hy), (sfs y (List.mem_cons_of_mem _ hy)).2⟩) hmr rvs ?_ hdL (hnx _ hbig) hx4 hn4 dne ?_ ?_ (L2.relO_put (fs := []) (mA := fun _ => none) rv fun _ => True.intro) ?_
  · obtain ⟨o, es, ep, hoL, hr⟩ := hns3
    exact ⟨o, es, ep, k4 _ _ neL hoL, hr⟩
  · intro y hy
    by_cases z : y = f
    · rw [z]; exact List.mem_singleton_self f
    · exact absurd (if_neg z) hy
  · simp only [List.length_cons] at hz ⊢
    simp only [List.length_nil]
    omega
  · intro h5 tk5 mA k5 hn5 rel
    have kk5 : ∀ b o, hp.get? b = some o → h5.get? b = some o := fun b o z => k5 b o (Nat.ne_of_lt (Nat.lt_of_lt_of_le (Heap.lt_size z) hbig)) (kp4 b o z)
    refine ⟨rfl, hq h5 tk5 e dx ⟨kk5, eb, ⟨_, _, k5 _ _ (Ne.symm dne) hx4, rfl, rfl, rfl, rfl⟩, hbig, dne, mA, hn5, fun y => ?_⟩⟩
    have z := rel y
    simpa using z
end
end Xc

set_option Elab.async false
set_option linter.all false
set_option maxRecDepth 100000
set_option maxHeartbeats 4000000
namespace Uv
open PySem PySem.Spec L2
open PyProof.Rows hiding St

/-! ### an exception of such a class made and raised -/
/-- C(e, ..): its fields by name, the last first -/
def tMkX (C : Addr) (fs : List Str) (ta : TA) : L2.St → Hp → XK → Prop := fun σ H Q => ta σ H fun vs H1 => vs.length = fs.length ∧ ∀ d, H1 d = none → Q (.ref C) (some d) (upd H1 d (.xd (fs.zip vs).reverse))
section
variable {X : Cx} {C : Addr} {x : Str} {fs : List Str}
theorem pmk_x {e : Expr} {es : List Expr} {ta : TA} {p pos : Pos} {k : Nat} (T : Xc.Txt X.prog X.K X.mg x fs C) (hr : Room k X.A) (hne : fs ≠ []) (hz : fs.length ≤ 100) (ha : PA X (e :: es) ta) (hg : Gl X x := by rfl) (hdb : (x == ("__debug__" : Str)) = false := by decide)
    (he : starEach (e :: es) X.env = (false, eval e X.env) :: starEach es X.env := by rfl) (hpl : (backTo pos (starEach es X.env)).any (·.1) = false := by rfl) : PMk X (.Call (.Name x p) (e :: es) [] pos) (tMkX C fs ta) := by
  intro pins s σ H Q I h
  refine wpAny_Call_Name_kw (ld_glob I hg T.gC ?_ hdb)
  refine PySem.W.callWith_K (h₀ := X.base) I.ok.mod.kin T.kC (thn (ha.run pos pins s σ H _ I h) fun us s1 hh => ?_) he hpl
  obtain ⟨vs, H1, I1, r1, hl, q1⟩ := hh
  refine ⟨I1.kIn, ?_⟩
  show wpAny _ _ (call (.ref C) us) _ _ _
  obtain ⟨mb, b1, b2⟩ := I1.mod.blt
  have hlim := I1.nolimit
  have hg' := I1.mod.glob.keeps I1.bk
  have hb' := b1.keeps I1.bk
  obtain ⟨hp, g, dr, tk, os⟩ := s1
  refine wpAny_call (Xc.made T I1.kIn hlim hg' hb' ((b2 "super" (by decide)).trans (by decide +kernel)) (by have := hr.dp; omega) (by rw [← hl]; exact (Paired.length r1).symm) r1 hne hz fun h' tk' e d M => ?_)
  show MkP X pins σ Q (.ref e) ⟨h', g, dr, tk', os⟩
  obtain ⟨oe, fv, hoe, hc, hd, hdat, h1⟩ := M.obj
  obtain ⟨mA, hns, rel⟩ := M.ns
  obtain ⟨G', g1, g2⟩ := restrict h' fun b => decide (b ≠ e)
  have gk : ∀ b, b ≠ e → G'.get? b = h'.get? b := fun b hb => g1 b (decide_eq_true hb)
  have ge : G'.get? e = none := g2 e (by simp)
  have old : ∀ b o, hp.get? b = some o → G'.get? b = some o := fun b o q => (gk b (Nat.ne_of_lt (Nat.lt_of_lt_of_le (Heap.lt_size q) M.new))).trans (M.keep b o q)
  have ob : ObjOk X.prog X.w (upd H1 d (.xd (fs.zip vs).reverse)) G' d (.xd (fs.zip vs).reverse) := ⟨mA, hns.at (fun o q => (gk d M.dne).trans q), rel⟩
  have J : Inv X pins σ (upd H1 d (.xd (fs.zip vs).reverse)) ⟨G', g, dr, tk', os⟩ := I1.laid (t' := tk') old M.dbig ob
  refine ⟨e, oe, fv, ⟨G', g, dr, tk', os⟩, _, .ref C, some d, rfl, J, fun b o q => ?_, ge, hoe, ⟨hc, hd⟩, hdat, h1, ?_, rfl, I1.bare, raises_own T.exC T.tyC, q1 d (I1.hok.fresh M.dbig)⟩
  · by_cases hb : b = e
    · have q' : G'.get? b = some o := q
      rw [hb, ge] at q'; cases q'
    · exact (gk b hb).symm.trans q
  · rw [upd_ne (Ne.symm M.dne)]
    exact I1.hok.fresh M.new
/-- raise C(e, ..) -/
def tRaiseX (C : Addr) (fs : List Str) (W : WX) (ta : TA) : TS := fun _ σ H => tMkX C fs ta σ H fun cls d H' => W cls d σ H'
theorem ps_raiseX {e : Expr} {es : List Expr} {ta : TA} {W : WX} {p pos pos2 : Pos} {k : Nat} (hc : X.calm = true) (T : Xc.Txt X.prog X.K X.mg x fs C) (hr : Room k X.A) (tk : Takes X W) (hne : fs ≠ []) (hz : fs.length ≤ 100) (ha : PA X (e :: es) ta) (hg : Gl X x := by rfl) (hdb : (x == ("__debug__" : Str)) = false := by decide)
    (he : starEach (e :: es) X.env = (false, eval e X.env) :: starEach es X.env := by rfl) (hpl : (backTo pos (starEach es X.env)).any (·.1) = false := by rfl) :
    PS X (.Raise (some (.Call (.Name x p) (e :: es) [] pos)) none pos2) (tRaiseX C fs W ta) := ps_raise hc tk (pmk_x T hr hne hz ha hg hdb he hpl)
end

/-! ### isinstance(e, c), e the exception that a suite holds -/
end Uv
namespace Xc
open PySem PySem.Spec PySem.Calls PySem.W PyProof.Rows
section
variable {prog : Program} {w : World} {A : Around} {E : Value → Shared → Prop} {s : Shared} {K : Frag} {x D : Addr} {ox : Obj} {od : Option Obj}
theorem find_cls {C : Addr} {name : Str} {a g : Value} (hc : (clsIn K C).isSome = true) (ha : findIn K (.ref C) name = some (some a)) (hg : specialIn K a "__get__" = some (some g)) (ht : takesIn K a = some true) : findObj K C od name = some (.bind g a) := by
  obtain ⟨cd, hc⟩ := Option.isSome_iff_exists.mp hc
  unfold findObj
  rw [hc, Option.bind_some, ha, Option.bind_some]
  simp [hg, ht]
/-- e.__class__ -/
theorem get_cls {Q : Option Value → Shared → Prop} (hga : findIn K (.ref D) "__getattribute__" = some (some (.builtin "BaseException.__getattribute__"))) (hgt : findIn K (.ref D) "__getattr__" = some none) (hsub : subIn K (.ref D) (.type "BaseException") = some true)
    (hdct : hasDictIn K D = true) (ha : findIn K (.ref D) "__class__" = some (some (.builtin "object.__class__"))) (hn : specialIn K (.builtin "object.__class__") "__get__" = some (some (.builtin "getset_descriptor.__get__"))) (htk : takesIn K (.builtin "object.__class__") = some true)
    (hm : mroIn K D (.type "object") = some true) (X : K.In s.heap) (I : InstAt s.heap x ox D od) (h : Q (some (.ref D)) { s with toks := s.toks + 1 }) : wpAny (model prog w) A (getAttr? (.ref x) "__class__") Q E s := by
  have hf : findObj K D od "__class__" = some (.bind (.builtin "getset_descriptor.__get__") (.builtin "object.__class__")) := find_cls (by obtain ⟨cd, hc, _⟩ := any_some hdct; rw [hc]; rfl) ha hn htk
  obtain ⟨hp, g, d, t, os⟩ := s
  have l0 := I.type (M := model prog w)
  have l1 := looks_findIn (M := model prog w) X hga
  have l2 := looks_findIn (M := model prog w) X hgt
  have l3 := looks_find (M := model prog w) X I hf
  have sub : Looks (model prog w) hp (isInstance (.ref x) (.type "BaseException")) true := l0.andThen (looks_subIn X hsub)
  have x0 : (false && onTheHeap (Value.builtin "BaseException.__getattribute__")) = false := rfl
  have x2 : (Value.builtin "BaseException.__getattribute__" == Value.builtin "object.__getattribute__") = false := by decide +kernel
  have x1 : (onTheHeap (Value.ref D) && Value.builtin "BaseException.__getattribute__" == Value.builtin "object.__getattribute__") = false := by rw [x2]; rfl
  unfold getAttr? getAttrBy? getAttrBy
  refine wpAny_bind (wpAny_mkText (wpAny_bind (wpAny_attempt (wpAny_holding (wpAny_bind (l0.at (wpAny_bind (l1.at ?_))))))))
  show wpAny _ _ (if (onTheHeap (Value.ref D) && Value.builtin "BaseException.__getattribute__" == Value.builtin "object.__getattribute__") = true then _ else _) _ _ _
  rw [x1, if_neg Bool.false_ne_true]
  unfold getAttrByItsOwn hookBefore
  refine wpAny_bind ?_
  rw [if_pos (show onTheHeap (Value.ref D) = true from rfl)]
  refine l2.at ?_
  refine wpAny_bind (wpAny_attempt (wpAny_holding ?_))
  unfold callGetattribute
  rw [x0, if_neg Bool.false_ne_true]
  unfold boundAndCalled
  rw [PySem.F.excAttr_ValueError.ga.bind (.ref x)]
  refine wpAny_bind (wpAny_pure ?_)
  show wpAny _ _ (call (.builtin "BaseException.__getattribute__") [.ref x, .str "__class__" t]) _ _ _
  refine wpAny_call (codeAny_call_builtin PySem.F.excAttr_ValueError.ga.plain PySem.F.entry_bexc_ga ?_)
  refine @check_slot (model prog w) _ _ ⟨hp, g, d, t + 1, os⟩ "BaseException.__getattribute__" "BaseException" "__getattribute__" (.ref x) [.str "__class__" t] [] _ (by decide +kernel) (by decide +kernel) sub (PySem.F.args_bexc_ga (.ref x) (.str "__class__" t)) ?_
  unfold Builtin.«object.__getattribute__»
  refine wpAny_bind (wpAny_of_eq (a := ((Value.ref x : Value), [Value.str "__class__" t])) (by first | rfl | (simp only [slotArgs]; rfl)) ?_)
  refine wpAny_bind (wpAny_pure (wpAny_bind (l0.at (wpAny_bind (l3.at ?_)))))
  show wpAny _ _ (holding [Value.builtin "object.__class__"] (call (.builtin "getset_descriptor.__get__") [.builtin "object.__class__", .ref x, .ref D]) >>= ret) _ _ _
  refine wpAny_bind (wpAny_holding (wpAny_call (class_get (s := ⟨hp, g, d, t + 1, os⟩) (ox := ox) (od := od) X I hm ?_)))
  refine wpAny_pure ?_
  show wpAny _ _ (handedOut (.ref D)) _ _ _
  rw [handedOut_of (v := .ref D) rfl]
  first
    | exact wpAny_pure (wpAny_pure h)
    | exact wpAny_pure h
    | exact wpAny_pure (wpAny_bind (wpAny_pure (wpAny_pure h)))
theorem kitx (hga : findIn K (.ref D) "__getattribute__" = some (some (.builtin "BaseException.__getattribute__"))) (hgt : findIn K (.ref D) "__getattr__" = some none) (hsub : subIn K (.ref D) (.type "BaseException") = some true) (hdct : hasDictIn K D = true)
    (ha : findIn K (.ref D) "__class__" = some (some (.builtin "object.__class__"))) (hn : specialIn K (.builtin "object.__class__") "__get__" = some (some (.builtin "getset_descriptor.__get__"))) (htk : takesIn K (.builtin "object.__class__") = some true) (hm : mroIn K D (.type "object") = some true) :
    KitX K (.ref x) (.ref D) (fun h => InstAt h x ox D od) where
  ty := fun _ _ _ I => I.type
  it := fun _ _ X _ => by
    obtain ⟨cdD, hcD, _⟩ := any_some hdct
    unfold clsIn at hcD
    split at hcD
    · rename_i c' d' cd' sl' ho
      intro A' Q' E' s' k q
      unfold isType loadHead
      exact wpAny_bind (wpAny_loadPart (k _ _ (X _ _ ho)) (wpAny_pure q))
    · cases hcD
  ne := fun h tp dd its n sl X htp => by
    obtain ⟨cdD, hcD, _⟩ := any_some hdct
    refine Bool.eq_false_iff.mpr fun q => ?_
    have e : D = tp := Value.ref.inj (beq_iff_eq.mp q)
    subst e
    unfold clsIn at hcD
    split at hcD
    · rename_i c' d' cd' sl' ho
      have z := (X _ _ ho).symm.trans htp
      cases z
    · cases hcD
  ca := fun X I k => get_cls hga hgt hsub hdct ha hn htk hm X I k
end
end Xc
namespace Uv
open PySem PySem.Spec L2
open PyProof.Rows hiding St
/-- isinstance(e, c) and isinstance(e, (c, ..)), e held at a of the class D with its dict at d -/
def rIsX (K : PySem.W.Frag) (a : Addr) (cls : Value) (d : Option Addr) : List V → Hp → VK → Prop := fun xs H Q => ∃ (D dd : Addr) (fs : List (Str × V)), cls = .ref D ∧ d = some dd ∧ H dd = some (.xd fs) ∧ ExcC K D ∧
  ((∃ (c : V) (cv : Value) (b : Bool), xs = [.ref a, c] ∧ ClsV c cv ∧ PySem.W.kitOne K (.ref D) cv = some b ∧ Q (.bl b) H) ∨
    ∃ (tp : Addr) (cs : List V) (us : List Value) (b : Bool), xs = [.ref a, .ref tp] ∧ H tp = some (.tup cs) ∧ Paired ClsV cs us ∧ PySem.W.kitAny K (.ref D) us = some b ∧ Q (.bl b) H)
theorem call_isX {X : Cx} {a : Addr} {oe : Obj} {cls : Value} {d : Option Addr} {pn : List (Addr × Obj)} (hz : Zc cls d oe) (hf : ∃ vs, oe.data = .fields vs) : CallR (X.suite a ((a, oe) :: pn)) (.builtin "isinstance") (rIsX X.K a cls d) := by
  intro pins s σ H xs us Q I r h
  obtain ⟨D, dd, fs, rfl, rfl, hdd, C, h⟩ := h
  obtain ⟨hget, _⟩ := I.pin (a, oe) (List.mem_append.mpr (.inl List.mem_cons_self))
  obtain ⟨vs, hv⟩ := hf
  obtain ⟨mA, hns, _⟩ := (show ObjOk X.prog X.w H s.heap dd (.xd fs) from I.hok dd _ hdd)
  obtain ⟨od, es, ep, hod, _⟩ := hns
  have J : PySem.W.InstAt s.heap a oe D (some od) := by
    obtain ⟨oc, odd, oda, osl⟩ := oe
    obtain ⟨h1, h2⟩ := hz
    dsimp only at h1 h2 hv
    subst h1 h2 hv
    exact ⟨hget, rfl, rfl, hod⟩
  have KX := Xc.kitx (x := a) (ox := oe) (od := some od) C.hg C.hk C.hs C.hd C.ha C.hn C.ht C.hm
  rcases h with ⟨c, cv, b, rfl, hc, e, q⟩ | ⟨tp, cs, ws, b, rfl, hT, hc, e, q⟩
  · obtain ⟨u1, u2, rfl, r1, r2⟩ := vals2 r
    cases (show u1 = Value.ref a from r1)
    have ec := hc.eq r2
    subst ec
    exact PySem.W.kia_one KX I.kIn J e (fun z => nomatch z) fun tk => ⟨.bl b, H, I.kept (t' := tk) fun _ _ z => z, rfl, q⟩
  · obtain ⟨u1, u2, rfl, r1, r2⟩ := vals2 r
    cases (show u1 = Value.ref a from r1)
    cases (show u2 = Value.ref tp from r2)
    obtain ⟨_, its, rv, o, h1, h2, n, h3⟩ := (show ObjOk X.prog X.w H s.heap tp (.tup cs) from I.hok tp _ hT)
    have e3 := ClsV.all hc rv
    subst e3
    obtain ⟨oc, odd, dt, sl⟩ := o
    simp only at h2 h3
    subst h2 h3
    exact PySem.W.kia_tup KX I.kIn J h1 e (fun z => nomatch z) fun tk => ⟨.bl b, H, I.tok tk, rfl, q⟩
end Uv

set_option Elab.async false
set_option linter.all false
set_option maxRecDepth 100000
set_option maxHeartbeats 4000000
namespace Uv
open PySem PySem.Spec L2
open PyProof.Rows hiding St

/-! ### try: body / except c as n: .. / except c2: .. -/
/-- one clause: its class, the slot of its name (if it has one), its suite -/
structure Cl where
  c : Value
  i : Option Nat
  ts : Addr → Value → Option Addr → TS
def setO (σ : L2.St) (i : Option Nat) (v : Option V) : L2.St := match i with
  | some i => σ.set i v
  | none => σ
def endO (D : Ends) (i : Option Nat) : Ends := match i with
  | some _ => { nx := fun σ' H' => D.nx (setO σ' i none) H', rt := D.rt, bk := fun σ' H' => D.bk (setO σ' i none) H', ct := fun σ' H' => D.ct (setO σ' i none) H' }
  | none => D
/-- what the clauses wish, one after the other -/
def wCl (K : PySem.W.Frag) (Wout : WX) (D : Ends) : List Cl → WX
  | [] => Wout
  | q :: r => fun cls d σ H => ∃ b, PySem.W.exmOne K cls q.c = some b ∧ (b = true → ∀ a, H a = none → q.ts a cls d (endO D q.i) (setO σ q.i (some (.ref a))) H) ∧ (b = false → wCl K Wout D r cls d σ H)
inductive ClOk (X : Cx) : List ExceptHandler → List Cl → Prop
  | nil : ClOk X [] []
  | bare {x : Str} {c : Value} {ts : Addr → Value → Option Addr → TS} {b0 : Stmt} {suite : List Stmt} {np pos' : Pos} {hds : List ExceptHandler} {l : List Cl} (hc : Names X x c)
      (hsu : ∀ (a : Addr) (oe : Obj) (cls : Value) (d : Option Addr) (pn : List (Addr × Obj)), Zc cls d oe → (∃ vs, oe.data = .fields vs) → PSs (X.suite a ((a, oe) :: pn)) (b0 :: suite) (ts a cls d)) (r : ClOk X hds l) :
      ClOk X (.ExceptHandler (some (.Name x np)) none (b0 :: suite) pos' :: hds) (⟨c, none, ts⟩ :: l)
  | named {x n : Str} {i : Nat} {c : Value} {ts : Addr → Value → Option Addr → TS} {b0 : Stmt} {suite : List Stmt} {np pos' : Pos} {hds : List ExceptHandler} {l : List Cl} (hc : Names X x c) (hN : X.N.Nodup) (hi : X.N[i]? = some n) (hln : X.env.kindOf n = some .local)
      (hsu : ∀ (a : Addr) (oe : Obj) (cls : Value) (d : Option Addr) (pn : List (Addr × Obj)), Zc cls d oe → (∃ vs, oe.data = .fields vs) → PSs (X.suite a ((a, oe) :: pn)) (b0 :: suite) (ts a cls d)) (r : ClOk X hds l) :
      ClOk X (.ExceptHandler (some (.Name x np)) (some n) (b0 :: suite) pos' :: hds) (⟨c, some i, ts⟩ :: l)
section
variable {X : Cx} {body : List Stmt} {h0 : ExceptHandler} {hds : List ExceptHandler} {l : List Cl} {pos : Pos} {tb : WX → TS} {Wout : WX}
theorem ps_tryC (tk : Takes X Wout) (hb : ∀ (W : WX) (pn : List (Addr × Obj)) (xe : Value → Shared → Prop), Takes (X.tr pn xe) W → PassesOwn (model X.prog X.w) X.A X.env xe → PSs (X.tr pn xe) body (tb W))
    (hh : ClOk X (h0 :: hds) l) (hs : X.stack = X.env :: X.outer := by rfl) (hf : X.env.frame = some X.env.locals := by rfl) : PS X (.Try body (h0 :: hds) [] [] pos) (fun D σ H => tb (wCl X.K Wout D l) D σ H) := by
  refine ⟨fun pins s σ H D I h => ?_⟩
  have ok := I.ok
  have hfr : X.A.frames = some (X.env :: X.outer) := by rw [ok.frames, hs]
  refine wpAny_Try_except ?_
  refine wpAny_mono ((hb (wCl X.K Wout D l) (X.pn ++ pins) (fun e s₁ => wpAny (model X.prog X.w) X.A (noteFrame e X.env) (fun _ s₂ => wpAny (model X.prog X.w) X.A (setFlight e none) (fun _ s₃ =>
    wpAny (model X.prog X.w) X.A (handleBy e X.env (h0 :: hds)) (SP X pins D) X.xe s₃) X.xe s₂) X.xe s₁) (fun u s' xx => ?_) PassesOwn.looking).run [] s σ H D (I.toTry _) h) (fun f s1 hsp => ?_) (fun e s1 he => he)
  · obtain ⟨a, B, sI, pins', σ', H', cls, d, rfl, J', nb, up, sky, na, os, ag, w⟩ := xx
    have J : Inv X pins σ' H' sI := J'.ofTry ok
    have skyT : Sky B (X.env :: X.outer) a (Zc cls d) X.env.locals s'.heap := by rw [← hs]; exact sky
    show wpAny (model X.prog X.w) X.A (noteFrame (.ref a) X.env) _ _ _
    refine Sky.land Zc.steady hfr hf skyT fun h3 fl3 up3 => ?_
    have J3 : Inv X pins σ' H' { s' with heap := h3 } := J.landed nb fl3.1 (up.trans up3) os ag
    obtain ⟨oe3, vs3, he3, hz3, hd3⟩ := fl3.there
    have offFr : ∀ {h : Heap} {o : Obj} {vs : Array Value}, h.FunFrames B (X.env :: X.outer) → h.get? a = some o → o.data = .fields vs → a ∉ frs (X.env :: X.outer) := fun {h o vs} ff e dd hm => by
      obtain ⟨_, o', e', hnf⟩ := ff.mem hm
      rw [e] at e'; cases e'
      exact hnf _ dd
    have nfr := offFr fl3.2.2.1 he3 hd3
    have nL : a ≠ X.env.locals := fun z => nfr (List.mem_filterMap.mpr ⟨X.env, List.mem_cons_self, by rw [hf, z]⟩)
    have nF : a ∉ X.fs := fun hm => by
      obtain ⟨e, he, q⟩ := List.mem_filterMap.mp hm
      exact nfr (List.mem_filterMap.mpr ⟨e, List.mem_cons_of_mem _ he, q⟩)
    have S3 := J3.suite he3 hd3 na nL nF
    have LT : PySem.W.Looks (model X.prog X.w) h3 (typeOf (.ref a)) cls := fun A Q E s k q => wpAny_typeOf_ref (k _ _ he3) (by rw [hz3.1]; exact q)
    -- the class of a clause is looked up
    have look : ∀ {x : Str} {c : Value} {np : Pos}, Names X x c → ∀ {Q : Value → Shared → Prop} {E : Value → Shared → Prop}, Q c { s' with heap := h3 } → wpAny (model X.prog X.w) (X.A.mark (some (.ref a))) (eval (.Name x np) X.env) Q E { s' with heap := h3 } := fun {x c np} hc {Q E} q => by
      obtain ⟨hg, hdbg, hm | ⟨hm, hv, hnn⟩⟩ := hc
      · exact ld_glob (X := X.suite a ((a, oe3) :: (X.pn ++ pins))) S3 hg hm q hdbg
      · exact ld_blt (X := X.suite a ((a, oe3) :: (X.pn ++ pins))) S3 hg hm hv q hnn hdbg
    have go : ∀ {hds' : List ExceptHandler} {l' : List Cl}, ClOk X hds' l' → wCl X.K Wout D l' cls d σ' H' → wpAny (model X.prog X.w) X.A (handleBy (.ref a) X.env hds') (SP X pins D) X.xe { s' with heap := h3 } := by
      intro hds' l' hk
      induction hk with
      | nil =>
        intro w
        refine wpAny_handleBy_nil ?_
        obtain ⟨k1, k2, k3, oe, vs, T, oT, ts', he, hz, hd, h1, hr⟩ := id fl3
        unfold PySem.passOn
        refine wpAny_bind (wpAny_field he hd h1 ?_)
        rw [if_neg (show ¬ ((Value.ref T == Value.none) = true) from by simp)]
        have fin : wpAny (model X.prog X.w) X.A (setFlight (.ref a) X.env.frame) (fun _ s4 => wpAny (model X.prog X.w) X.A (throw (.ref a) : Sem Flow) (SP X pins D) X.xe s4) X.xe { s' with heap := h3 } := by
          rw [hf]
          refine HandSPX.setFlight_upZ fl3 fun h4 hh4 up4 => wpAny_throw (tk _ _ ?_)
          exact ⟨a, B, sI, pins, σ', H', cls, d, rfl, J, nb, (up.trans up3).trans up4, .inr (.inr (by rw [hs]; exact hh4)), na, os, ag, w⟩
        first
          | exact wpAny_bind (wpAny_pure (wpAny_bind fin))
          | exact wpAny_bind fin
      | @bare x c ts b0 suite np pos' hds2 l2 hc hsu r ih =>
        intro w
        obtain ⟨b, hb1, hyes, hno⟩ := w
        refine wpAny_handleBy_cons (codeAny_handlers_test ?_) (by intro q; cases q)
        refine look hc ((PySem.W.exm_one (M := model X.prog X.w) (J3.kIn) LT hb1).here ?_)
        cases b with
        | true =>
          refine codeAny_handlers_suite ?_
          refine HandSPX.lands_againZ fl3 fun h4 fl4 up4 => ?_
          have J4 : Inv X pins σ' H' { s' with heap := h4 } := J.landed nb fl4.1 ((up.trans up3).trans up4) os ag
          obtain ⟨oe4, vs4, he4, hz4, hd4⟩ := fl4.there
          refine wpAny_mono ((hsu a oe4 cls d (X.pn ++ pins) hz4 ⟨_, hd4⟩).run [] _ _ H' _ (J4.suite he4 hd4 na nL nF) (hyes rfl a na)) (fun f s6 hsp => ?_) (fun _ _ z => False.elim z)
          cases f with
          | next => obtain ⟨σ6, H6, S6, q6⟩ := hsp; exact ⟨_, _, S6.unsuite ok, q6⟩
          | brk => obtain ⟨σ6, H6, S6, q6⟩ := hsp; exact ⟨_, _, S6.unsuite ok, q6⟩
          | cont => obtain ⟨σ6, H6, S6, q6⟩ := hsp; exact ⟨_, _, S6.unsuite ok, q6⟩
          | ret u => obtain ⟨v6, σ6, H6, S6, r6, q6⟩ := hsp; exact ⟨_, _, _, S6.unsuite ok, r6, q6⟩
        | false =>
          show wpAny _ X.A (handleBy (.ref a) X.env hds2) _ _ _
          exact ih (hno rfl)
      | @named x n i c ts b0 suite np pos' hds2 l2 hc hN hi hln hsu r ih =>
        intro w
        obtain ⟨b, hb1, hyes, hno⟩ := w
        refine wpAny_handleBy_cons (codeAny_handlers_test ?_) (by intro q; cases q)
        refine look hc ((PySem.W.exm_one (M := model X.prog X.w) (J3.kIn) LT hb1).here ?_)
        cases b with
        | true =>
          refine codeAny_handlers_suite_as ?_
          refine HandSPX.lands_againZ fl3 fun h4 fl4 up4 => ?_
          have J4 : Inv X pins σ' H' { s' with heap := h4 } := J.landed nb fl4.1 ((up.trans up3).trans up4) os ag
          obtain ⟨oe4, vs4, he4, hz4, hd4⟩ := fl4.there
          refine store_ok (X := X.suite a ((a, oe4) :: (X.pn ++ pins))) (v := .ref a) (J4.suite he4 hd4 na nL nF) hN hi (.inl hln) rfl (fun s5 S5 => ?_) (.inr hln)
          refine wpAny_mono ((hsu a oe4 cls d (X.pn ++ pins) hz4 ⟨_, hd4⟩).run [] s5 _ H' _ S5 (hyes rfl a na)) (fun f s6 hsp => ?_) (fun _ _ z => False.elim z)
          have out : ∀ {σ6 : L2.St} {H6 : Hp} {Q : Shared → Prop}, Inv (X.suite a ((a, oe4) :: (X.pn ++ pins))) [] σ6 H6 s6 → (∀ s7, Inv X pins (σ6.set i none) H6 s7 → Q s7) →
              wpAny (model X.prog X.w) X.A (do bindName X.env n .none; unbindBehindTheSuite X.env n pos') (fun _ s7 => Q s7) X.xe s6 := fun {σ6 H6 Q} S6 hq => gone_ok (S6.unsuite ok) hN hi hln hq
          cases f with
          | next => obtain ⟨σ6, H6, S6, q6⟩ := hsp; exact out S6 fun s7 J7 => ⟨_, _, J7, q6⟩
          | brk => obtain ⟨σ6, H6, S6, q6⟩ := hsp; exact out S6 fun s7 J7 => ⟨_, _, J7, q6⟩
          | cont => obtain ⟨σ6, H6, S6, q6⟩ := hsp; exact out S6 fun s7 J7 => ⟨_, _, J7, q6⟩
          | ret u => obtain ⟨v6, σ6, H6, S6, r6, q6⟩ := hsp; exact out S6 fun s7 J7 => ⟨_, _, _, J7, r6, q6⟩
        | false =>
          show wpAny _ X.A (handleBy (.ref a) X.env hds2) _ _ _
          exact ih (hno rfl)
    exact go hh w
  · cases f with
    | next => obtain ⟨σ', H', J', q⟩ := hsp; exact wpAny_execs_nil ⟨σ', H', J'.ofTry ok, q⟩
    | brk => obtain ⟨σ', H', J', q⟩ := hsp; exact ⟨σ', H', J'.ofTry ok, q⟩
    | cont => obtain ⟨σ', H', J', q⟩ := hsp; exact ⟨σ', H', J'.ofTry ok, q⟩
    | ret u => obtain ⟨v, σ', H', J', r, q⟩ := hsp; exact ⟨v, σ', H', J'.ofTry ok, r, q⟩
end
end Uv

set_option Elab.async false
set_option linter.all false
set_option maxRecDepth 100000
set_option maxHeartbeats 4000000
namespace Uv
open PySem PySem.Spec L2
open PyProof.Rows hiding St

/-! ### heaps that grow -/
/-- all that was there stands -/
abbrev Ex := Evl.Ex
theorem exR (H : Hp) : Ex H H := Evl.Ex.refl H
theorem exN {H : Hp} {p : Addr} {o : HO} (h : H p = none) : Ex H (upd H p o) := Evl.Ex.new h
theorem Ex.tr {H H1 H2 : Hp} (a : Ex H H1) (b : Ex H1 H2) : Ex H H2 := Evl.Ex.trans a b
mutual
theorem dp_ex {K : PySem.W.Frag} {H H' : Hp} (e : Ex H H') : ∀ (d : PyData) (v : V), Dp K H v d → Dp K H' v d
  | .none, _, h => by cases h; exact .non
  | .bool b, _, h => by cases h; exact .bl b
  | .int i, _, h => by cases h; exact .int i
  | .str x, _, h => by cases h; exact .str x
  | .list ds, _, h => by
    cases h with
    | lst hs ha => exact .lst (Evl.ex_l e hs) (dpa_ex e ds _ ha)
  | .tuple ds, _, h => by
    cases h with
    | tup hs ha => exact .tup (Evl.ex_t e hs) (dpa_ex e ds _ ha)
  | .dict _, _, h => by cases h
theorem dpa_ex {K : PySem.W.Frag} {H H' : Hp} (e : Ex H H') : ∀ (ds : List PyData) (vs : List V), DpAll K H vs ds → DpAll K H' vs ds
  | [], _, h => by cases h; exact .nil
  | d :: ds, _, h => by
    cases h with
    | cons a b => exact .cons (dp_ex e d _ a) (dpa_ex e ds _ b)
end
theorem Dp.ex {K : PySem.W.Frag} {H H' : Hp} {v : V} {d : PyData} (h : Dp K H v d) (e : Ex H H') : Dp K H' v d := dp_ex e d v h

/-! ### readings, a step each -/
section
variable {σ : L2.St} {H : Hp} {Q : VK} {QB : Bool → Hp → Prop} {QA : List V → Hp → Prop} {D : Ends} {ta tb te : TE} {t u : TT} {s1 s2 : TS} {v x y : V} {i : Nat} {K : PySem.W.Frag}
theorem s_seq (h : s1 { D with nx := s2 D } σ H) : tSeq s1 s2 D σ H := h
theorem s_next (h : D.nx σ H) : tNext D σ H := h
theorem s_brk (h : D.bk σ H) : tBreak D σ H := h
theorem s_cont (h : D.ct σ H) : tCont D σ H := h
theorem s_asg {g : TG} (h : te σ H fun x H1 => g x σ H1 D.nx) : tAsg te g D σ H := h
theorem s_gn {Q : L2.St → Hp → Prop} (h : Q (σ.set i (some v)) H) : gName i v σ H Q := h
theorem s_ret (h : te σ H D.rt) : tRet te D σ H := h
theorem s_drop (h : te σ H fun _ H1 => D.nx σ H1) : tDrop te D σ H := h
theorem s_if (h : t σ H fun b H1 => if b = true then s1 D σ H1 else s2 D σ H1) : tIfS t s1 s2 D σ H := h
theorem s_var (h : σ[i]? = some (some v)) (q : Q v H) : tVar i σ H Q := ⟨v, h, q⟩
theorem s_c (q : Q v H) : tC v σ H Q := q
theorem s_op {r : R2} (h : ta σ H fun x H1 => tb σ H1 fun y H2 => r x y H2 Q) : tOp r ta tb σ H Q := h
theorem s_un {r : V → Hp → VK → Prop} (h : ta σ H fun x H1 => r x H1 Q) : tUn r ta σ H Q := h
theorem s_cb {r : List V → Hp → VK → Prop} {ts : TA} (h : ts σ H fun vs H1 => r vs H1 Q) : tCB r ts σ H Q := h
theorem s_call {sp : Sp} {dvs : List V} {E : L2.St → XK} {ts : TA} (h : ts σ H fun vs H1 => sp (vs ++ dvs) H1 Q (E σ)) : uCall sp dvs E ts σ H Q := h
theorem s_cons {ts : TA} (h : ta σ H fun x H1 => ts σ H1 fun xs H2 => QA (x :: xs) H2) : tCons ta ts σ H QA := h
theorem s_nil (h : QA [] H) : tNil σ H QA := h
theorem s_test (h : te σ H fun x H' => ∃ k, x = .bl k ∧ QB k H') : tTest te σ H QB := h
theorem s_tB (h : te σ H fun x H' => ∃ k, x = .bl k ∧ QB k H') : tB te σ H QB := h
theorem s_not (h : t σ H fun c H1 => QB (!c) H1) : tNot t σ H QB := h
theorem s_and (h : t σ H fun c H1 => if c = true then u σ H1 QB else QB false H1) : tAnd t u σ H QB := h
theorem s_or (h : t σ H fun c H1 => if c = true then QB true H1 else u σ H1 QB) : tOr t u σ H QB := h
theorem s_andV (h : ta σ H fun x H1 => ∃ c, x = .bl c ∧ if c = true then tb σ H1 Q else Q (.bl false) H1) : tAndV ta tb σ H Q := h
theorem s_orV (h : ta σ H fun x H1 => ∃ c, x = .bl c ∧ if c = true then Q (.bl true) H1 else tb σ H1 Q) : tOrV ta tb σ H Q := h
theorem s_notV (h : ta σ H fun x H1 => ∃ c, x = .bl c ∧ Q (.bl (!c)) H1) : tNotV ta σ H Q := h
theorem s_ifE (h : t σ H fun c H1 => if c = true then ta σ H1 Q else tb σ H1 Q) : tIf t ta tb σ H Q := h
theorem s_bl {b : Bool} {P : Bool → Prop} (h : P b) : ∃ c, V.bl b = V.bl c ∧ P c := ⟨b, rfl, h⟩
theorem s_iT {A B : Prop} (h : A) : if true = true then A else B := by rw [if_pos rfl]; exact h
theorem s_iF {A B : Prop} (h : B) : if false = true then A else B := by rw [if_neg Bool.false_ne_true]; exact h
theorem s_ite {c : Prop} [Decidable c] {A B : Prop} (h1 : c → A) (h2 : ¬ c → B) : if decide c = true then A else B := by
  by_cases h : c
  · rw [if_pos (decide_eq_true h)]; exact h1 h
  · rw [if_neg (by simpa using h)]; exact h2 h
theorem s_iteN {c : Prop} [Decidable c] {A B : Prop} (h1 : ¬ c → A) (h2 : c → B) : if (!decide c) = true then A else B := by
  by_cases h : c
  · rw [decide_eq_true h]; exact s_iF (h2 h)
  · rw [decide_eq_false h]; exact s_iT (h1 h)
theorem s_itB {b : Bool} {A B : Prop} (h1 : b = true → A) (h2 : b = false → B) : if b = true then A else B := by
  cases b with
  | true => exact s_iT (h1 rfl)
  | false => exact s_iF (h2 rfl)
/-- a new tuple, a new list; the heap is from then on any that has it -/
theorem s_new {o : HO} {P : Addr → Hp → Prop} (h : ∀ p H', H p = none → Ex H H' → H' p = some o → P p H') : ∀ p, H p = none → P p (upd H p o) := fun p n => h p _ n (exN n) upd_same
theorem s_tup {ts : TA} (h : ts σ H fun xs H1 => xs.length ≤ sizeLine ∧ ∀ p H', H1 p = none → Ex H1 H' → H' p = some (.tup xs) → Q (.ref p) H') (mono : ∀ Q1 Q2 : List V → Hp → Prop, (∀ xs H1, Q1 xs H1 → Q2 xs H1) → ts σ H Q1 → ts σ H Q2) : tTup ts σ H Q :=
  mono _ _ (fun xs H1 z => ⟨z.1, s_new z.2⟩) h
theorem s_tupE {ts : TA} (h : ts σ H fun xs H1 => xs.length ≤ sizeLine ∧ ∀ p, H1 p = none → Q (.ref p) (upd H1 p (.tup xs))) : tTup ts σ H Q := h
theorem s_lstE {ts : TA} (h : ts σ H fun xs H1 => xs.length ≤ sizeLine ∧ ∀ p, H1 p = none → Q (.ref p) (upd H1 p (.lst xs))) : tLst ts σ H Q := h
theorem s_szN {n : Nat} {P : Prop} (hn : n ≤ 1000) (h : P) : n ≤ sizeLine ∧ P := ⟨Nat.le_trans hn (by decide), h⟩
/-! operators -/
theorem s_I0 {g : Int → Int → V} {a b : Int} (h : Q (g a b) H) : rI0 g (.int a) (.int b) H Q := ⟨a, b, rfl, rfl, h⟩
theorem s_I {C : Int → Int → Prop} {g : Int → Int → V} {a b : Int} (c : C a b) (h : Q (g a b) H) : rI C g (.int a) (.int b) H Q := ⟨a, b, rfl, rfl, c, h⟩
theorem s_U {g : Int → V} {a : Int} (h : Q (g a) H) : rU g (.int a) H Q := ⟨a, rfl, h⟩
theorem s_addI {a b : Int} (h : Q (.int (a + b)) H) : uAdd K (.int a) (.int b) H Q := h
theorem s_addS {a b : Str} (c : a.length + b.length ≤ sizeLine) (h : Q (.str (a ++ b)) H) : uAdd K (.str a) (.str b) H Q := ⟨c, h⟩
theorem s_addL {a b : Addr} {xs ys : List V} (ha : H a = some (.lst xs)) (hb : H b = some (.lst ys)) (c : xs.length + ys.length ≤ sizeLine) (h : ∀ p, H p = none → Q (.ref p) (upd H p (.lst (xs ++ ys)))) : uAdd K (.ref a) (.ref b) H Q := .inl ⟨a, b, xs, ys, rfl, rfl, ha, hb, c, h⟩
theorem s_mulI {a b : Int} (c : CMul a b ∨ CMulW a b) (h : Q (.int (a * b)) H) : uMul K (.int a) (.int b) H Q := ⟨c, h⟩
theorem s_mulS {a : Str} {n : Int} (c : MulOk a n) (h : Q (.str (Txt.mul a n)) H) : uMul K (.str a) (.int n) H Q := ⟨c, h⟩
theorem s_divI {a b : Int} (c : b ≠ 0 ∧ b.natAbs.log2 < 9000) (h : Q (.int (a.fdiv b)) H) : uDiv (.int a) (.int b) H Q := ⟨c, h⟩
theorem s_divP {a b : Int} (c : 0 < b) (d : b.natAbs.log2 < 9000) (h : Q (.int (a / b)) H) : uDiv (.int a) (.int b) H Q := ⟨⟨by omega, d⟩, by rw [Int.fdiv_eq_ediv_of_nonneg a (by omega)]; exact h⟩
theorem s_eqI {a b : Int} (h : Q (.bl (decide (a = b))) H) : uEq K (.int a) (.int b) H Q := h
theorem s_eqS {a b : Str} (h : Q (.bl (decide (a = b))) H) : uEq K (.str a) (.str b) H Q := h
theorem s_eqB {a b : Bool} (h : Q (.bl (decide (a = b))) H) : uEq K (.bl a) (.bl b) H Q := h
theorem s_neI {a b : Int} (h : Q (.bl (!decide (a = b))) H) : uNe K (.int a) (.int b) H Q := h
theorem s_neS {a b : Str} (h : Q (.bl (!decide (a = b))) H) : uNe K (.str a) (.str b) H Q := h
theorem s_neB {a b : Bool} (h : Q (.bl (!decide (a = b))) H) : uNe K (.bl a) (.bl b) H Q := h
theorem eq_data {d e : PyData} (hx : Dp K H x d) (hy : Dp K H y e) (sd : SeqAt.shaped d = true) (se : SeqAt.shaped e = true) (h : Q (.bl (PyData.eqv d e)) H) : uEq K x y H Q := by
  have z : rEqD K x y H Q := ⟨d, e, hx, hy, sd, se, h⟩
  cases hx <;> cases hy <;> first | exact z | (simpa [uEq, PyData.eqv, Bool.beq_eq_decide_eq] using h)
theorem ne_data {d e : PyData} (hx : Dp K H x d) (hy : Dp K H y e) (sd : SeqAt.shaped d = true) (se : SeqAt.shaped e = true) (h : Q (.bl (!PyData.eqv d e)) H) : uNe K x y H Q := by
  have z : rNeD K x y H Q := ⟨d, e, hx, hy, sd, se, h⟩
  cases hx <;> cases hy <;> first | exact z | (simpa [uNe, PyData.eqv, Bool.beq_eq_decide_eq] using h)
theorem s_ixT {p : Addr} {xs : List V} {j : Int} (h : SqT K H p xs) (ha : atI xs j = some v) (q : Q v H) : rIx K (.ref p) (.int j) H Q := .inr (.inl ⟨p, xs, j, v, rfl, rfl, h, ha, q⟩)
theorem s_ixL {p : Addr} {xs : List V} {j : Int} (h : SqL K H p xs) (ha : atI xs j = some v) (q : Q v H) : rIx K (.ref p) (.int j) H Q := .inl ⟨p, xs, j, v, rfl, rfl, h, ha, q⟩
theorem s_ixS {z : Str} {j : Int} {c : Nat} (hz : z.length ≤ sizeLine) (ha : atI z.cps.toList j = some c) (q : Q (.str ⟨#[c]⟩) H) : rIx K (.str z) (.int j) H Q := .inr (.inr ⟨z, j, c, rfl, rfl, hz, ha, q⟩)
end

/-! ### built-ins by the kinds of their arguments -/
def uInt : List V → Hp → VK → Prop := fun xs H Q => match xs with
  | [.int i] => Q (.int i) H
  | [.bl b] => Q (.int (if b then 1 else 0)) H
  | [.str a] => ∃ n, PySem.intText? a = some n ∧ a.length ≤ 640 ∧ Q (.int n) H
  | _ => False
def uStr : List V → Hp → VK → Prop := fun xs H Q => match xs with
  | [.int i] => i.natAbs.log2 < 1920 ∧ Q (.str (toString i)) H
  | [.str a] => Q (.str a) H
  | _ => False
/-- what repr gives of plain data -/
def ReprV (K : PySem.W.Frag) (H : Hp) (v : V) (r : Str) : Prop := (∃ d, Dp K H v d ∧ d.showable = true ∧ d.hasDict = false ∧ d.depth ≤ 60 ∧ d.shown.length ≤ sizeLine ∧ r = d.shown) ∨ ∃ a, v = .ref a ∧ H a = some (.dK []) ∧ r = "{}"
def uRepr (K : PySem.W.Frag) : List V → Hp → VK → Prop := fun xs H Q => ∃ v r, xs = [v] ∧ ReprV K H v r ∧ Q (.str r) H
section
variable {X : Cx}
theorem call_uInt : CallR X (.type "int") uInt := by
  intro pins s σ H xs us Q I r h
  match xs, h with
  | [.int i], h => exact call_int1 pins s σ H _ us Q I r (.inl ⟨i, rfl, h⟩)
  | [.bl b], h => exact call_int1 pins s σ H _ us Q I r (.inr ⟨b, rfl, h⟩)
  | [.str a], h =>
    obtain ⟨n, h1, h2, h3⟩ := h
    exact call_int_str pins s σ H _ us Q I r ⟨a, n, rfl, h1, h2, h3⟩
theorem call_uStr : CallR X (.type "str") uStr := by
  intro pins s σ H xs us Q I r h
  match xs, h with
  | [.int i], h => exact call_str_int pins s σ H _ us Q I r ⟨i, rfl, h.1, h.2⟩
  | [.str a], h => exact SkE.call_str_str pins s σ H _ us Q I r ⟨a, rfl, h⟩
theorem call_uRepr {k : Nat} (hr : Rm k X.A) : CallR X (.builtin "repr") (uRepr X.K) := by
  intro pins s σ H xs us Q I r h
  obtain ⟨v, q, rfl, hd, h⟩ := h
  have hu := hr.r.un
  obtain ⟨u, rfl⟩ : ∃ u, us = [u] := by
    cases r with
    | cons a b => cases b; exact ⟨_, rfl⟩
  have rv : RelV v u := by
    cases r with
    | cons a b => exact a
  have fin : ∀ (d : PyData) (as : List Addr) (a : Addr), u = .ref a → Reads s.heap (.ref a) d as → d.showable = true → (d.hasDict = true → sysModules ∉ as) → d.depth ≤ 60 → d.shown.length ≤ sizeLine → q = d.shown → wpAny (model X.prog X.w) X.A (call (.builtin "repr") [u]) (EP X pins σ Q) X.xe s := by
    intro d as a e rd hs hsm hdp hl hq
    subst e hq
    exact repr_of_reads' rd hs hsm hr.g (by omega) (fun _ _ z => z) (fun h' t tk k => ⟨.str d.shown, H, I.kept (t' := tk) k, ⟨_, rfl⟩, h⟩) hl
  rcases hd with ⟨d, hp, hs, hnd, hdp, hl, rfl⟩ | ⟨a, rfl, hH, rfl⟩
  · cases hp with
    | non => cases (show u = .none from rv); exact P.repr_of_none ⟨.str "None", H, I.tok _, ⟨_, rfl⟩, by simpa only [PyData.shown] using h⟩
    | bl b => cases (show u = .bool b from rv); exact P.repr_of_bool ⟨.str _, H, I.tok _, ⟨_, rfl⟩, by cases b <;> simpa only [PyData.shown] using h⟩
    | int i =>
      obtain ⟨t, rfl⟩ := (show ∃ t, u = .int i t from rv)
      exact P.repr_of_int (by simpa [PyData.showable] using hs) ⟨.str _, H, I.tok _, ⟨_, rfl⟩, by simpa only [PyData.shown] using h⟩
    | str x =>
      obtain ⟨t, rfl⟩ := (show ∃ t, u = .str x t from rv)
      exact P.repr_of_str ⟨.str _, H, I.tok _, ⟨_, rfl⟩, by simpa only [PyData.shown] using h⟩ (by simpa only [PyData.shown] using hl)
    | @lst a xs ds hq ha =>
      cases (show u = .ref a from rv)
      obtain ⟨as, rd⟩ := Dp.reads I _ _ _ (.lst hq ha) (show RelV (.ref a) (.ref a) from rfl)
      exact fin _ _ a rfl rd hs (fun z => by rw [hnd] at z; cases z) hdp hl rfl
    | @tup a xs ds hq ha =>
      cases (show u = .ref a from rv)
      obtain ⟨as, rd⟩ := Dp.reads I _ _ _ (.tup hq ha) (show RelV (.ref a) (.ref a) from rfl)
      exact fin _ _ a rfl rd hs (fun z => by rw [hnd] at z; cases z) hdp hl rfl
  · cases (show u = .ref a from rv)
    obtain ⟨_, hsys, vs, kv, o, es, ep, ho, hx, hdt, _, he, _⟩ := (show ObjOk X.prog X.w H s.heap a (.dK []) from I.hok a _ hH)
    cases kv
    have hes : es = #[] := by
      have z : es.toList = [] := by
        cases q : es.toList with
        | nil => rfl
        | cons b l => rw [q] at he; cases he
      exact Array.toList_eq_nil_iff.mp z
    subst hes
    have rd : Reads s.heap (.ref a) (.dict []) _ := Reads.dict ho hx.1 hdt .nil .nil
    refine fin (.dict []) _ a rfl rd (by simp [PyData.showable, PyData.showableKv]) (fun _ hm => ?_) (by simp [PyData.depth, PyData.depthKv]) (by decide +kernel) (by decide +kernel)
    have z : sysModules = a := by simpa using hm
    rw [z] at hsys
    simp at hsys
end
end Uv

set_option Elab.async false
set_option linter.all false
set_option maxRecDepth 100000
set_option maxHeartbeats 4000000
namespace Uv
open PySem PySem.Spec L2
open PyProof.Rows hiding St
/-- the built-in names that the module leaves alone -/
structure Bi (mg : Str → Option Value) : Prop where
  isinstance : mg "isinstance" = none
  len : mg "len" = none
  abs : mg "abs" = none
  repr : mg "repr" = none
  max : mg "max" = none
  min : mg "min" = none
  sum : mg "sum" = none
  all : mg "all" = none
  any : mg "any" = none
  sorted : mg "sorted" = none
  int : mg "int" = none
  str : mg "str" = none
  list : mg "list" = none
  tuple : mg "tuple" = none
  bool : mg "bool" = none
  dict : mg "dict" = none
  range : mg "range" = none
  enumerate : mg "enumerate" = none
  zip : mg "zip" = none
  iter : mg "iter" = none
  reversed : mg "reversed" = none
  super : mg "super" = none
  ValueError : mg "ValueError" = none
def biNames : List Str := ["isinstance", "len", "abs", "repr", "max", "min", "sum", "all", "any", "sorted", "int", "str", "list", "tuple", "bool", "dict", "range", "enumerate", "zip", "iter", "reversed", "super", "ValueError"]
theorem Bi.of {mg : Str → Option Value} (h : ∀ (i : Nat) (x : Str), biNames[i]? = some x → mg x = none) : Bi mg :=
  ⟨h 0 _ rfl, h 1 _ rfl, h 2 _ rfl, h 3 _ rfl, h 4 _ rfl, h 5 _ rfl, h 6 _ rfl, h 7 _ rfl, h 8 _ rfl, h 9 _ rfl, h 10 _ rfl, h 11 _ rfl, h 12 _ rfl, h 13 _ rfl, h 14 _ rfl, h 15 _ rfl, h 16 _ rfl, h 17 _ rfl, h 18 _ rfl, h 19 _ rfl, h 20 _ rfl, h 21 _ rfl, h 22 _ rfl⟩
theorem b_isinstance : bootBuiltins "isinstance" = some (.builtin "isinstance") := by first | rfl | decide +kernel
theorem b_len : bootBuiltins "len" = some (.builtin "len") := by first | rfl | decide +kernel
theorem b_abs : bootBuiltins "abs" = some (.builtin "abs") := by first | rfl | decide +kernel
theorem b_repr : bootBuiltins "repr" = some (.builtin "repr") := by first | rfl | decide +kernel
theorem b_max : bootBuiltins "max" = some (.builtin "max") := by first | rfl | decide +kernel
theorem b_min : bootBuiltins "min" = some (.builtin "min") := by first | rfl | decide +kernel
theorem b_sum : bootBuiltins "sum" = some (.builtin "sum") := by first | rfl | decide +kernel
theorem b_all : bootBuiltins "all" = some (.builtin "all") := by first | rfl | decide +kernel
theorem b_any : bootBuiltins "any" = some (.builtin "any") := by first | rfl | decide +kernel
theorem b_sorted : bootBuiltins "sorted" = some (.builtin "sorted") := by first | rfl | decide +kernel
theorem b_int : bootBuiltins "int" = some (.type "int") := by first | rfl | decide +kernel
theorem b_str : bootBuiltins "str" = some (.type "str") := by first | rfl | decide +kernel
theorem b_list : bootBuiltins "list" = some (.type "list") := by first | rfl | decide +kernel
theorem b_tuple : bootBuiltins "tuple" = some (.type "tuple") := by first | rfl | decide +kernel
theorem b_bool : bootBuiltins "bool" = some (.type "bool") := by first | rfl | decide +kernel
theorem b_dict : bootBuiltins "dict" = some (.type "dict") := by first | rfl | decide +kernel
theorem b_ValueError : bootBuiltins "ValueError" = some (.type "ValueError") := by first | rfl | decide +kernel
section
variable {X : Cx}
def uSl (K : PySem.W.Frag) : V → Option Int → Option Int → Hp → VK → Prop := fun x lo hi H Q => match x with
  | .str z => z.length ≤ sizeLine ∧ Q (.str (cutS z lo hi)) H
  | x => rSlL K x lo hi H Q ∨ rSlA K x lo hi H Q
theorem sl_u : SlR X (uSl X.K) := by
  intro pins s σ H x v vl vu lo hi sl Q I rx hs pl pu h
  cases x with
  | str z => exact sl_str pins s σ H _ v vl vu lo hi sl Q I rx hs pl pu ⟨z, rfl, h.1, h.2⟩
  | _ =>
    rcases h with h | h
    · exact sl_list pins s σ H _ v vl vu lo hi sl Q I rx hs pl pu h
    · exact sl_tupA pins s σ H _ v vl vu lo hi sl Q I rx hs pl pu h
end
/-! the type of a piece of data, isinstance of built-in types -/
def tyD : PyData → String
  | .none => "NoneType"
  | .bool _ => "bool"
  | .int _ => "int"
  | .str _ => "str"
  | .list _ => "list"
  | .tuple _ => "tuple"
  | .dict _ => "dict"
theorem tyx_of {K : PySem.W.Frag} {H : Hp} {v : V} {d : PyData} (h : Dp K H v d) : TyX K H v (.type (tyD d)) := by
  cases h with
  | non => exact .base .non
  | bl b => exact .base (.bl b)
  | int i => exact .base (.int i)
  | str x => exact .base (.str x)
  | lst hs _ =>
    rcases hs with (h | ⟨o, h⟩) | ⟨o, its, n, hk, hc, _⟩
    · exact .base (.lst h)
    · exact .base (.frz h)
    · exact .kList hk hc
  | tup hs _ =>
    rcases hs with (h | ⟨o, h⟩) | ⟨o, its, n, hk, hc, _⟩
    · exact .base (.tup h)
    · exact .fTuple h
    · exact .kTuple hk hc
def isB (d : PyData) (n : String) : Bool := match d, n with
  | .bool _, "int" => true
  | d, n => tyD d == n
theorem kit_int : ∀ {K : PySem.W.Frag} (d : PyData), PySem.W.kitOne K (.type (tyD d)) (.type "int") = some (match d with | .int _ => true | .bool _ => true | _ => false)
  | K, .none => kit_ty (show kitB "NoneType" "int" = some false from by decide +kernel)
  | K, .bool _ => kit_ty (show kitB "bool" "int" = some true from by decide +kernel)
  | K, .int _ => kit_ty (show kitB "int" "int" = some true from by decide +kernel)
  | K, .str _ => kit_ty (show kitB "str" "int" = some false from by decide +kernel)
  | K, .list _ => kit_ty (show kitB "list" "int" = some false from by decide +kernel)
  | K, .tuple _ => kit_ty (show kitB "tuple" "int" = some false from by decide +kernel)
  | K, .dict _ => kit_ty (show kitB "dict" "int" = some false from by decide +kernel)
theorem kit_bool : ∀ {K : PySem.W.Frag} (d : PyData), PySem.W.kitOne K (.type (tyD d)) (.type "bool") = some (match d with | .bool _ => true | _ => false)
  | K, .none => kit_ty (show kitB "NoneType" "bool" = some false from by decide +kernel)
  | K, .bool _ => kit_ty (show kitB "bool" "bool" = some true from by decide +kernel)
  | K, .int _ => kit_ty (show kitB "int" "bool" = some false from by decide +kernel)
  | K, .str _ => kit_ty (show kitB "str" "bool" = some false from by decide +kernel)
  | K, .list _ => kit_ty (show kitB "list" "bool" = some false from by decide +kernel)
  | K, .tuple _ => kit_ty (show kitB "tuple" "bool" = some false from by decide +kernel)
  | K, .dict _ => kit_ty (show kitB "dict" "bool" = some false from by decide +kernel)
theorem kit_str : ∀ {K : PySem.W.Frag} (d : PyData), PySem.W.kitOne K (.type (tyD d)) (.type "str") = some (match d with | .str _ => true | _ => false)
  | K, .none => kit_ty (show kitB "NoneType" "str" = some false from by decide +kernel)
  | K, .bool _ => kit_ty (show kitB "bool" "str" = some false from by decide +kernel)
  | K, .int _ => kit_ty (show kitB "int" "str" = some false from by decide +kernel)
  | K, .str _ => kit_ty (show kitB "str" "str" = some true from by decide +kernel)
  | K, .list _ => kit_ty (show kitB "list" "str" = some false from by decide +kernel)
  | K, .tuple _ => kit_ty (show kitB "tuple" "str" = some false from by decide +kernel)
  | K, .dict _ => kit_ty (show kitB "dict" "str" = some false from by decide +kernel)
theorem kit_tuple : ∀ {K : PySem.W.Frag} (d : PyData), PySem.W.kitOne K (.type (tyD d)) (.type "tuple") = some (match d with | .tuple _ => true | _ => false)
  | K, .none => kit_ty (show kitB "NoneType" "tuple" = some false from by decide +kernel)
  | K, .bool _ => kit_ty (show kitB "bool" "tuple" = some false from by decide +kernel)
  | K, .int _ => kit_ty (show kitB "int" "tuple" = some false from by decide +kernel)
  | K, .str _ => kit_ty (show kitB "str" "tuple" = some false from by decide +kernel)
  | K, .list _ => kit_ty (show kitB "list" "tuple" = some false from by decide +kernel)
  | K, .tuple _ => kit_ty (show kitB "tuple" "tuple" = some true from by decide +kernel)
  | K, .dict _ => kit_ty (show kitB "dict" "tuple" = some false from by decide +kernel)
theorem kit_list : ∀ {K : PySem.W.Frag} (d : PyData), PySem.W.kitOne K (.type (tyD d)) (.type "list") = some (match d with | .list _ => true | _ => false)
  | K, .none => kit_ty (show kitB "NoneType" "list" = some false from by decide +kernel)
  | K, .bool _ => kit_ty (show kitB "bool" "list" = some false from by decide +kernel)
  | K, .int _ => kit_ty (show kitB "int" "list" = some false from by decide +kernel)
  | K, .str _ => kit_ty (show kitB "str" "list" = some false from by decide +kernel)
  | K, .list _ => kit_ty (show kitB "list" "list" = some true from by decide +kernel)
  | K, .tuple _ => kit_ty (show kitB "tuple" "list" = some false from by decide +kernel)
  | K, .dict _ => kit_ty (show kitB "dict" "list" = some false from by decide +kernel)
section
variable {K : PySem.W.Frag} {H : Hp} {Q : VK} {v : V} {d : PyData}
abbrev isIntD : PyData → Bool | .int _ => true | .bool _ => true | _ => false
abbrev isBoolD : PyData → Bool | .bool _ => true | _ => false
abbrev isStrD : PyData → Bool | .str _ => true | _ => false
abbrev isTupD : PyData → Bool | .tuple _ => true | _ => false
abbrev isListD : PyData → Bool | .list _ => true | _ => false
theorem s_isInt (h : Dp K H v d) (q : Q (.bl (isIntD d)) H) : rIsi K [v, .ty "int"] H Q := ⟨v, .ty "int", _, _, _, rfl, .ty _, tyx_of h, kit_int d, by cases d <;> exact q⟩
theorem s_isBool (h : Dp K H v d) (q : Q (.bl (isBoolD d)) H) : rIsi K [v, .ty "bool"] H Q := ⟨v, .ty "bool", _, _, _, rfl, .ty _, tyx_of h, kit_bool d, by cases d <;> exact q⟩
theorem s_isStr (h : Dp K H v d) (q : Q (.bl (isStrD d)) H) : rIsi K [v, .ty "str"] H Q := ⟨v, .ty "str", _, _, _, rfl, .ty _, tyx_of h, kit_str d, by cases d <;> exact q⟩
theorem s_isTup (h : Dp K H v d) (q : Q (.bl (isTupD d)) H) : rIsi K [v, .ty "tuple"] H Q := ⟨v, .ty "tuple", _, _, _, rfl, .ty _, tyx_of h, kit_tuple d, by cases d <;> exact q⟩
theorem s_isList (h : Dp K H v d) (q : Q (.bl (isListD d)) H) : rIsi K [v, .ty "list"] H Q := ⟨v, .ty "list", _, _, _, rfl, .ty _, tyx_of h, kit_list d, by cases d <;> exact q⟩
end
end Uv

set_option Elab.async false
set_option linter.all false
set_option maxRecDepth 100000
set_option maxHeartbeats 4000000
namespace Uv
open PySem PySem.Spec L2
open PyProof.Rows hiding St
/-! ### the bag from which a law draws -/
def bagK (c : Addr) (at_ rest mixed count : Int) : List (Key × V) := [(.inr "cells", .ref c), (.inr "at", .int at_), (.inr "rest", .int rest), (.inr "mixed", .int mixed), (.inr "count", .int count)]
structure BagIs (H : Hp) (b c : Addr) (ns : List Int) (at_ rest mixed count : Int) : Prop where
  d : H b = some (.dK (bagK c at_ rest mixed count))
  l : H c = some (.lst (ns.map V.int))
  nn : 0 ≤ at_
  sz : ns.length ≤ 63
def BagAt (H : Hp) (b : Addr) : Prop := ∃ c ns at_ rest mixed count, BagIs H b c ns at_ rest mixed count
/-- all but the bag stands -/
structure Kb (b : Addr) (H H' : Hp) : Prop where
  b0 : BagAt H b
  b1 : BagAt H' b
  keep : ∀ a o, a ≠ b → H a = some o → H' a = some o
theorem Kb.refl {b : Addr} {H : Hp} (h : BagAt H b) : Kb b H H := ⟨h, h, fun _ _ _ e => e⟩
theorem Kb.tr {b : Addr} {H H1 H2 : Hp} (x : Kb b H H1) (y : Kb b H1 H2) : Kb b H H2 := ⟨x.b0, y.b1, fun a o n e => y.keep a o n (x.keep a o n e)⟩
theorem BagAt.ex {b : Addr} {H H' : Hp} (h : BagAt H b) (e : Ex H H') : BagAt H' b := by
  obtain ⟨c, ns, a, r, m, k, x⟩ := h
  exact ⟨c, ns, a, r, m, k, e _ _ x.d, e _ _ x.l, x.nn, x.sz⟩
theorem Ex.kb {b : Addr} {H H' : Hp} (e : Ex H H') (h : BagAt H b) : Kb b H H' := ⟨h, h.ex e, fun a o _ z => e a o z⟩
theorem Kb.at {b a : Addr} {H H' : Hp} {o : HO} (x : Kb b H H') (e : H a = some o) (n : ∀ kvs, o ≠ .dK kvs) : H' a = some o := by
  obtain ⟨c, ns, at_, r, m, k, y⟩ := x.b0
  exact x.keep a o (fun z => by rw [z, y.d] at e; exact n _ (Option.some.inj e).symm) e
theorem Kb.rd {b a : Addr} {H H' : Hp} {o : HO} (x : Kb b H H') (e : Rd H a o) (n : ∀ kvs, o ≠ .dK kvs) : Rd H' a o := by
  rcases e with e | ⟨u, e⟩
  · exact .inl (x.at e n)
  · exact .inr ⟨u, x.at e fun _ z => by cases z⟩
theorem Kb.l {b a : Addr} {K : PySem.W.Frag} {H H' : Hp} {xs : List V} (x : Kb b H H') (h : SqL K H a xs) : SqL K H' a xs := by
  rcases h with h | h
  · exact .inl (x.rd h fun _ z => by cases z)
  · exact .inr h
theorem Kb.t {b a : Addr} {K : PySem.W.Frag} {H H' : Hp} {xs : List V} (x : Kb b H H') (h : SqT K H a xs) : SqT K H' a xs := by
  rcases h with h | h
  · exact .inl (x.rd h fun _ z => by cases z)
  · exact .inr h
mutual
theorem dp_kb {K : PySem.W.Frag} {b : Addr} {H H' : Hp} (e : Kb b H H') : ∀ (d : PyData) (v : V), Dp K H v d → Dp K H' v d
  | .none, _, h => by cases h; exact .non
  | .bool b, _, h => by cases h; exact .bl b
  | .int i, _, h => by cases h; exact .int i
  | .str x, _, h => by cases h; exact .str x
  | .list ds, _, h => by
    cases h with
    | lst hs ha => exact .lst (e.l hs) (dpa_kb e ds _ ha)
  | .tuple ds, _, h => by
    cases h with
    | tup hs ha => exact .tup (e.t hs) (dpa_kb e ds _ ha)
  | .dict _, _, h => by cases h
theorem dpa_kb {K : PySem.W.Frag} {b : Addr} {H H' : Hp} (e : Kb b H H') : ∀ (ds : List PyData) (vs : List V), DpAll K H vs ds → DpAll K H' vs ds
  | [], _, h => by cases h; exact .nil
  | d :: ds, _, h => by
    cases h with
    | cons a b => exact .cons (dp_kb e d _ a) (dpa_kb e ds _ b)
end
theorem Kb.dp {K : PySem.W.Frag} {b : Addr} {H H' : Hp} {v : V} {d : PyData} (x : Kb b H H') (h : Dp K H v d) : Dp K H' v d := dp_kb x d v h

/-! its entries read and stored -/
section
variable {H : Hp} {Q : VK} {b c : Addr} {at_ rest mixed count : Int} {D : Ends} {σ : L2.St}
theorem key_ne {x y : Str} (h : (x == y) = false) : ¬ ((.inr x : Key) = .inr y) := fun z => by
  have e : x = y := Sum.inr.inj z
  rw [e] at h
  simp at h
theorem bv_cells : valV (bagK c at_ rest mixed count) (.inr "cells") = some (.ref c) := valV_pos rfl
theorem bv_at : valV (bagK c at_ rest mixed count) (.inr "at") = some (.int at_) := by
  unfold bagK
  rw [valV_neg (key_ne (by decide +kernel)), valV_pos rfl]
theorem bv_rest : valV (bagK c at_ rest mixed count) (.inr "rest") = some (.int rest) := by
  unfold bagK
  rw [valV_neg (key_ne (by decide +kernel)), valV_neg (key_ne (by decide +kernel)), valV_pos rfl]
theorem bv_mixed : valV (bagK c at_ rest mixed count) (.inr "mixed") = some (.int mixed) := by
  unfold bagK
  rw [valV_neg (key_ne (by decide +kernel)), valV_neg (key_ne (by decide +kernel)), valV_neg (key_ne (by decide +kernel)), valV_pos rfl]
theorem bv_count : valV (bagK c at_ rest mixed count) (.inr "count") = some (.int count) := by
  unfold bagK
  rw [valV_neg (key_ne (by decide +kernel)), valV_neg (key_ne (by decide +kernel)), valV_neg (key_ne (by decide +kernel)), valV_neg (key_ne (by decide +kernel)), valV_pos rfl]
theorem put_pos {kvs : List (Key × V)} {k : Key} {v w : V} (h : valV kvs k = some w) : putK kvs k v = kvs.map fun kv => if kv.1 = k then (kv.1, v) else kv := by
  unfold putK
  rw [valV_any, h]
  rfl
theorem bp_at {i : Int} : putK (bagK c at_ rest mixed count) (.inr "at") (.int i) = bagK c i rest mixed count := by
  rw [put_pos bv_at]
  unfold bagK
  simp only [List.map_cons, List.map_nil, if_neg (key_ne (show (("cells" : Str) == "at") = false by decide +kernel)), if_neg (key_ne (show (("rest" : Str) == "at") = false by decide +kernel)), if_neg (key_ne (show (("mixed" : Str) == "at") = false by decide +kernel)), if_neg (key_ne (show (("count" : Str) == "at") = false by decide +kernel)), if_true]
theorem bp_rest {i : Int} : putK (bagK c at_ rest mixed count) (.inr "rest") (.int i) = bagK c at_ i mixed count := by
  rw [put_pos bv_rest]
  unfold bagK
  simp only [List.map_cons, List.map_nil, if_neg (key_ne (show (("cells" : Str) == "rest") = false by decide +kernel)), if_neg (key_ne (show (("at" : Str) == "rest") = false by decide +kernel)), if_neg (key_ne (show (("mixed" : Str) == "rest") = false by decide +kernel)), if_neg (key_ne (show (("count" : Str) == "rest") = false by decide +kernel)), if_true]
theorem bp_mixed {i : Int} : putK (bagK c at_ rest mixed count) (.inr "mixed") (.int i) = bagK c at_ rest i count := by
  rw [put_pos bv_mixed]
  unfold bagK
  simp only [List.map_cons, List.map_nil, if_neg (key_ne (show (("cells" : Str) == "mixed") = false by decide +kernel)), if_neg (key_ne (show (("at" : Str) == "mixed") = false by decide +kernel)), if_neg (key_ne (show (("rest" : Str) == "mixed") = false by decide +kernel)), if_neg (key_ne (show (("count" : Str) == "mixed") = false by decide +kernel)), if_true]
theorem bp_count {i : Int} : putK (bagK c at_ rest mixed count) (.inr "count") (.int i) = bagK c at_ rest mixed i := by
  rw [put_pos bv_count]
  unfold bagK
  simp only [List.map_cons, List.map_nil, if_neg (key_ne (show (("cells" : Str) == "count") = false by decide +kernel)), if_neg (key_ne (show (("at" : Str) == "count") = false by decide +kernel)), if_neg (key_ne (show (("rest" : Str) == "count") = false by decide +kernel)), if_neg (key_ne (show (("mixed" : Str) == "count") = false by decide +kernel)), if_true]
variable {ns : List Int} {td ty tv : TE} {i : Nat}
theorem bag_get {P : V → Hp → Prop} {k : Str} {v : V} (h : BagIs H b c ns at_ rest mixed count) (e : valV (bagK c at_ rest mixed count) (.inr k) = some v) (q : P v H) : ∃ a w, V.ref b = V.ref a ∧ DGet H a (.str k) (some w) ∧ P w H :=
  ⟨b, v, rfl, by rw [← e]; exact DGet.k (k := .inr k) h.d, q⟩
theorem bag_put {P : Hp → Prop} {k : Str} {v : V} {kvs : List (Key × V)} (h : BagIs H b c ns at_ rest mixed count) (e : putK (bagK c at_ rest mixed count) (.inr k) v = kvs) (q : P (upd H b (.dK kvs))) : ∃ a H', V.ref b = V.ref a ∧ DPut H a (.str k) v H' ∧ P H' :=
  ⟨b, _, rfl, DPut.k (k := .inr k) h.d (by show 5 < sizeLine; decide), by rw [e]; exact q⟩
theorem bag_upd {a' r' m' k' : Int} (h : BagIs H b c ns at_ rest mixed count) (n : 0 ≤ a') : BagIs (upd H b (.dK (bagK c a' r' m' k'))) b c ns a' r' m' k' ∧ Kb b H (upd H b (.dK (bagK c a' r' m' k'))) := by
  have x : BagIs (upd H b (.dK (bagK c a' r' m' k'))) b c ns a' r' m' k' := ⟨upd_same, by rw [upd_ne (ne_of h.l h.d (by intro z; cases z))]; exact h.l, n, h.sz⟩
  exact ⟨x, ⟨_, _, _, _, _, _, h⟩, ⟨_, _, _, _, _, _, x⟩, fun a o na e => by rw [upd_ne na]; exact e⟩
theorem s_bget {k : Str} {v : V} {σ : L2.St} {Q : VK} (h : BagIs H b c ns at_ rest mixed count) (hv : σ[i]? = some (some (.ref b))) (e : valV (bagK c at_ rest mixed count) (.inr k) = some v) (q : Q v H) : tDGet (tVar i) (tC (.str k)) σ H Q :=
  ⟨_, hv, b, v, rfl, by rw [← e]; exact DGet.k (k := .inr k) h.d, q⟩
theorem s_bput {k : Str} {w : V} {a' r' m' k' : Int} {P : Hp → Prop} (h : BagIs H b c ns at_ rest mixed count) (e : putK (bagK c at_ rest mixed count) (.inr k) w = bagK c a' r' m' k') (z : 0 ≤ a') (q : ∀ H', BagIs H' b c ns a' r' m' k' → Kb b H H' → P H') : ∃ a H', V.ref b = V.ref a ∧ DPut H a (.str k) w H' ∧ P H' :=
  ⟨b, _, rfl, DPut.k (k := .inr k) h.d (by show 5 < sizeLine; decide), by rw [e]; exact q _ (bag_upd h z).1 (bag_upd h z).2⟩
end
theorem valV_no {kvs : List (Key × V)} {k : Key} (h : ∀ kv ∈ kvs, kv.1 ≠ k) : valV kvs k = none := by
  induction kvs with
  | nil => rfl
  | cons a r ih => rw [valV_neg (h a List.mem_cons_self)]; exact ih fun kv m => h kv (List.mem_cons_of_mem _ m)
theorem fold_new : ∀ (kvs acc : List (Key × V)), ((acc ++ kvs).map (·.1)).Nodup → kvs.foldl (fun acc kv => putK acc kv.1 kv.2) acc = acc ++ kvs
  | [], acc, _ => by simp
  | (k, v) :: r, acc, h => by
    have z : valV acc k = none := valV_no fun kv m e => by
      rw [List.map_append, List.nodup_append] at h
      exact h.2.2 kv.1 (List.mem_map.mpr ⟨kv, m, rfl⟩) k (by simp) e
    rw [List.foldl_cons, putK_new v z, fold_new r (acc ++ [(k, v)]) (by rw [List.append_assoc]; exact h), List.append_assoc]
    rfl
/-- a dict display whose keys differ -/
theorem merge_new {kvs : List (Key × V)} (h : (kvs.map (·.1)).Nodup) : mergeK [] kvs = kvs := fold_new kvs [] h
/-- a call of a def that draws: any number below many -/
def spPick : Sp := fun vs H Q E => ∃ (b : Addr) (m : Int), vs = [.ref b, .int m] ∧ BagAt H b ∧ 0 < m ∧ m.natAbs.log2 < 9000 ∧ ∀ r H', 0 ≤ r → r < m → Kb b H H' → Q (.int r) H'
end Uv

set_option Elab.async false
set_option linter.all false
set_option maxRecDepth 100000
set_option maxHeartbeats 4000000
namespace Uv
open PySem PySem.Spec L2
open PyProof.Rows hiding St
def uLen (K : PySem.W.Frag) : List V → Hp → VK → Prop := fun xs H Q => match xs with
  | [.str z] => z.length ≤ sizeLine ∧ Q (.int (z.length : Int)) H
  | [.ref p] => ∃ ys, (SqL K H p ys ∨ SqT K H p ys) ∧ Q (.int (ys.length : Int)) H
  | _ => False
def uAbs : List V → Hp → VK → Prop := fun xs H Q => match xs with
  | [.int i] => Q (.int (i.natAbs : Int)) H
  | _ => False
def uMax : List V → Hp → VK → Prop := fun xs H Q => match xs with
  | [.int i, .int j] => Q (.int (max i j)) H
  | _ => False
def uMin : List V → Hp → VK → Prop := fun xs H Q => match xs with
  | [.int i, .int j] => Q (.int (min i j)) H
  | _ => False
def uGcd : List V → Hp → VK → Prop := fun xs H Q => match xs with
  | [.int i, .int j] => Q (.int (Int.gcd i j : Int)) H
  | _ => False
def uInS (neg : Bool) : R2 := fun x y H Q => match x, y with
  | .str a, .str b => ∃ c, a = ⟨#[c]⟩ ∧ Q (.bl (neg.xor (decide (c ∈ b.cps.toList)))) H
  | _, _ => False
section
variable {X : Cx}
theorem call_uLen : CallR X (.builtin "len") (uLen X.K) := by
  intro pins s σ H xs us Q I r h
  match xs, h with
  | [.str z], h => exact call_len pins s σ H _ us Q I r ⟨.str z, z.length, rfl, ⟨h.1, rfl⟩, h.2⟩
  | [.ref p], h =>
    obtain ⟨ys, h1, h2⟩ := h
    refine call_len pins s σ H _ us Q I r ⟨.ref p, ys.length, rfl, ?_, h2⟩
    rcases h1 with h1 | h1
    · exact .inl ⟨ys, h1, rfl⟩
    · exact .inr ⟨ys, h1, rfl⟩
theorem call_uAbs : CallR X (.builtin "abs") uAbs := by
  intro pins s σ H xs us Q I r h
  match xs, h with
  | [.int i], h =>
    refine call_abs pins s σ H _ us Q I r ⟨i, rfl, ?_⟩
    have e : (if i < 0 then -i else i) = (i.natAbs : Int) := by split <;> omega
    rw [e]
    exact h
theorem call_uMax (hc : X.calm = true) : CallR X (.builtin "max") uMax := by
  intro pins s σ H xs us Q I r h
  match xs, h with
  | [.int i, .int j], h =>
    refine call_max2 hc pins s σ H _ us Q I r ⟨i, j, rfl, ?_⟩
    have e : (if j > i then j else i) = max i j := by split <;> omega
    rw [e]
    exact h
theorem call_uMin (hc : X.calm = true) : CallR X (.builtin "min") uMin := by
  intro pins s σ H xs us Q I r h
  match xs, h with
  | [.int i, .int j], h =>
    refine call_min2 hc pins s σ H _ us Q I r ⟨i, j, rfl, ?_⟩
    have e : (if j < i then j else i) = min i j := by split <;> omega
    rw [e]
    exact h
theorem call_uGcd : CallR X (.builtin "math.gcd") uGcd := by
  intro pins s σ H xs us Q I r h
  match xs, h with
  | [.int i, .int j], h => exact cr_gcd pins s σ H _ us Q I r ⟨i, j, rfl, h⟩
theorem op_uIn : OpR X (compareOp .In) (uInS false) := by
  intro pins s σ H x y u v Q I rx ry h
  cases x with
  | str a =>
    cases y with
    | str b =>
      obtain ⟨c, rfl, q⟩ := h
      exact op_in_sign pins s σ H _ _ _ _ Q I rx ry ⟨c, b, rfl, rfl, by simpa using q⟩
    | _ => exact h.elim
  | _ => exact h.elim
theorem op_uNotIn : OpR X (compareOp .NotIn) (uInS true) := by
  intro pins s σ H x y u v Q I rx ry h
  cases x with
  | str a =>
    cases y with
    | str b =>
      obtain ⟨c, rfl, q⟩ := h
      exact op_notIn_sign pins s σ H _ _ _ _ Q I rx ry ⟨c, b, rfl, rfl, by simpa using q⟩
    | _ => exact h.elim
  | _ => exact h.elim
/-- a module's constant -/
theorem pe_gS {x z : Str} {pos : Pos} (h : ∃ t, X.mg x = some (.str z t)) (hg : Gl X x := by rfl) (hd : (x == ("__debug__" : Str)) = false := by decide) : PE X (.Name x pos) (tC (.str z)) := by
  obtain ⟨t, h⟩ := h
  exact pe_glob hg h ⟨t, rfl⟩ hd
theorem pe_gI {x : Str} {i : Int} {pos : Pos} (h : ∃ t, X.mg x = some (.int i t)) (hg : Gl X x := by rfl) (hd : (x == ("__debug__" : Str)) = false := by decide) : PE X (.Name x pos) (tC (.int i)) := by
  obtain ⟨t, h⟩ := h
  exact pe_glob hg h ⟨t, rfl⟩ hd
theorem pe_gR {x : Str} {a : Addr} {pos : Pos} (h : X.mg x = some (.ref a)) (hg : Gl X x := by rfl) (hd : (x == ("__debug__" : Str)) = false := by decide) : PE X (.Name x pos) (tC (.ref a)) := pe_glob hg h rfl hd
end
section
variable {σ : L2.St} {H : Hp} {Q : VK} {QB : Bool → Hp → Prop} {D : Ends} {ta tb te td ty tv : TE} {v x y : V} {i : Nat} {K : PySem.W.Frag}
theorem s_dget (h : td σ H fun x H1 => ty σ H1 fun y H2 => ∃ a v, x = .ref a ∧ DGet H2 a y (some v) ∧ Q v H2) : tDGet td ty σ H Q := h
theorem s_dput (h : tv σ H fun v H1 => td σ H1 fun x H2 => ty σ H2 fun y H3 => ∃ a H4, x = .ref a ∧ DPut H3 a y v H4 ∧ D.nx σ H4) : sDPut td ty tv D σ H := h
theorem s_mod {a b : Int} (c : 0 < b) (h : Q (.int (a % b)) H) : rI (fun _ j => 0 < j) (fun i j => .int (i % j)) (.int a) (.int b) H Q := ⟨a, b, rfl, rfl, c, h⟩
theorem s_pow {a b : Int} (c : CPow a b) (h : Q (.int (a ^ b.toNat)) H) : rI CPow (fun i j => .int (i ^ j.toNat)) (.int a) (.int b) H Q := ⟨a, b, rfl, rfl, c, h⟩
theorem s_int {a : Int} (h : Q (.int a) H) : uInt [.int a] H Q := h
theorem s_intB {b : Bool} (h : Q (.int (if b then 1 else 0)) H) : uInt [.bl b] H Q := h
theorem s_intS {a : Str} {n : Int} (e : PySem.intText? a = some n) (l : a.length ≤ 640) (h : Q (.int n) H) : uInt [.str a] H Q := ⟨n, e, l, h⟩
theorem s_strI {a : Int} (c : a.natAbs.log2 < 1920) (h : Q (.str (toString a)) H) : uStr [.int a] H Q := ⟨c, h⟩
theorem s_strS {a : Str} (h : Q (.str a) H) : uStr [.str a] H Q := h
theorem s_lenS {z : Str} (c : z.length ≤ sizeLine) (h : Q (.int (z.length : Int)) H) : uLen K [.str z] H Q := ⟨c, h⟩
theorem s_lenL {p : Addr} {ys : List V} (c : SqL K H p ys) (h : Q (.int (ys.length : Int)) H) : uLen K [.ref p] H Q := ⟨ys, .inl c, h⟩
theorem s_lenT {p : Addr} {ys : List V} (c : SqT K H p ys) (h : Q (.int (ys.length : Int)) H) : uLen K [.ref p] H Q := ⟨ys, .inr c, h⟩
theorem s_abs {a : Int} (h : Q (.int (a.natAbs : Int)) H) : uAbs [.int a] H Q := h
theorem s_max {a b : Int} (h : Q (.int (max a b)) H) : uMax [.int a, .int b] H Q := h
theorem s_min {a b : Int} (h : Q (.int (min a b)) H) : uMin [.int a, .int b] H Q := h
theorem s_gcd {a b : Int} (h : Q (.int (Int.gcd a b : Int)) H) : uGcd [.int a, .int b] H Q := h
theorem s_inS {neg : Bool} {c : Nat} {b : Str} (h : Q (.bl (neg.xor (decide (c ∈ b.cps.toList)))) H) : uInS neg (.str ⟨#[c]⟩) (.str b) H Q := ⟨c, rfl, h⟩
theorem s_chain {r r' : R2} {tc : TE} (h : ta σ H fun x H1 => tb σ H1 fun y H2 => r x y H2 fun z H3 => ∃ k, z = .bl k ∧ (if k = true then tc σ H3 fun w' H4 => r' y w' H4 Q else Q (.bl false) H3)) : tChain r r' ta tb tc σ H Q := h
theorem s_sl {r : V → Option Int → Option Int → Hp → VK → Prop} {tl th : TO} (h : te σ H fun x H1 => tl σ H1 fun l H2 => th σ H2 fun u H3 => r x l u H3 Q) : tSl r te tl th σ H Q := h
theorem s_noP {QO : Option Int → Hp → Prop} (h : QO none H) : tNoPart σ H QO := h
theorem s_part {QO : Option Int → Hp → Prop} (h : te σ H fun x H1 => ∃ i, x = .int i ∧ QO (some i) H1) : tPart te σ H QO := h
theorem s_exI {a : Int} {P : Int → Prop} (h : P a) : ∃ i, V.int a = V.int i ∧ P i := ⟨a, rfl, h⟩
theorem s_slS {z : Str} {lo hi : Option Int} (c : z.length ≤ sizeLine) (h : Q (.str (cutS z lo hi)) H) : uSl K (.str z) lo hi H Q := ⟨c, h⟩
theorem s_isN (h : Q (.bl (decide (x = .non))) H) : (fun (x y : V) (H : Hp) (Q : VK) => y = .non ∧ Q (.bl (decide (x = .non))) H) x .non H Q := ⟨rfl, h⟩
end
end Uv

set_option Elab.async false
set_option linter.all false
set_option maxRecDepth 100000
set_option maxHeartbeats 4000000
namespace Uv
open PySem PySem.Spec L2
open PyProof.Rows hiding St
/-! ### a joint: the rest of a suite is read once -/
def tSeqJ (t u : TS) : TS := fun D σ H => t { D with nx := u D } σ H
section
variable {X : Cx} {st : Stmt} {rest : List Stmt} {t u : TS}
theorem pss_consJ (h1 : PS X st t) (h2 : PSs X rest u) : PSs X (st :: rest) (tSeqJ t u) := pss_cons h1 h2
end
section
variable {D : Ends} {σ : L2.St} {H : Hp}
theorem s_seqJ {s1 s2 : TS} (M : L2.St → Hp → Prop) (h1 : ∀ σ H, M σ H → s2 D σ H) (h2 : ∀ R : L2.St → Hp → Prop, (∀ σ H, M σ H → R σ H) → s1 { D with nx := R } σ H) : tSeqJ s1 s2 D σ H := h2 _ h1
theorem s_J {s1 s2 : TS} (h : tSeqJ s1 s2 D σ H) : tSeqJ s1 s2 D σ H := h
/-! ### for -/
def LoopR (J : It) (g : TG) (tb : TS) : TS := fun D σ H => ∃ W : Nat → Nat → L2.St → Hp → Prop, (∃ m, W 0 m σ H) ∧ ∀ i m σ H, W i m σ H →
  (J.stop i H ∧ D.nx σ H) ∨ (J.go i H ∧ ∃ N : L2.St → Hp → Prop, (∀ σ' H', N σ' H' → ∃ m', m' < m ∧ W (i + 1) m' σ' H') ∧ ∀ x H', J.yld i H x H' → g x σ H' fun σ2 H2 => tb { D with nx := N, ct := N, bk := D.nx } σ2 H2)
theorem s_for {wi : TI} {g : TG} {tb : TS} (h : wi σ H fun J H1 => LoopR J g tb D σ H1) : tFor wi g tb D σ H := h
theorem loop_n {J : It} {g : TG} {tb : TS} (n : Nat) (I : Nat → L2.St → Hp → Prop) (h0 : I 0 σ H) (hs : ∀ σ H, I n σ H → J.stop n H) (hg : ∀ i σ H, I i σ H → i < n → J.go i H) (hx : ∀ σ H, I n σ H → D.nx σ H)
    (hb : ∀ i x σ H H', i < n → I i σ H → J.yld i H x H' → g x σ H' fun σ2 H2 => tb { D with nx := I (i + 1), ct := I (i + 1), bk := D.nx } σ2 H2) : LoopR J g tb D σ H := by
  refine ⟨fun i m σ H => i + m = n ∧ I i σ H, ⟨n, by omega, h0⟩, fun i m σ H ⟨e, h⟩ => ?_⟩
  by_cases z : i < n
  · exact .inr ⟨hg i σ H h z, I (i + 1), fun σ' H' h' => ⟨m - 1, by omega, by omega, h'⟩, fun x H' y => hb i x σ H H' z h y⟩
  · have : i = n := by omega
    subst this
    exact .inl ⟨hs σ H h, hx σ H h⟩
theorem loopL {K : PySem.W.Frag} {p : Addr} {xs : List V} {g : TG} {tb : TS} (I : Nat → L2.St → Hp → Prop) (h0 : I 0 σ H) (keep : ∀ i σ H, I i σ H → SqL K H p xs) (hx : ∀ σ H, I xs.length σ H → D.nx σ H)
    (hb : ∀ i x σ H, xs[i]? = some x → I i σ H → g x σ H fun σ2 H2 => tb { D with nx := I (i + 1), ct := I (i + 1), bk := D.nx } σ2 H2) : ∃ a, V.ref p = V.ref a ∧ (∃ xs, SqL K H a xs) ∧ LoopR (Itl K a) g tb D σ H := by
  refine ⟨p, rfl, ⟨xs, keep 0 σ H h0⟩, loop_n xs.length I h0 (fun σ H h => ⟨xs, keep _ σ H h, Nat.le_refl _⟩) (fun i σ H h z => ⟨xs, _, keep _ σ H h, List.getElem?_eq_getElem z⟩) hx fun i x σ H H' z h y => ?_⟩
  obtain ⟨rfl, y⟩ := y
  exact hb i x σ _ (y xs (keep _ σ _ h)) h
theorem loopT {K : PySem.W.Frag} {p : Addr} {xs : List V} {g : TG} {tb : TS} (I : Nat → L2.St → Hp → Prop) (h0 : I 0 σ H) (keep : ∀ i σ H, I i σ H → SqT K H p xs) (hx : ∀ σ H, I xs.length σ H → D.nx σ H)
    (hb : ∀ i x σ H, xs[i]? = some x → I i σ H → g x σ H fun σ2 H2 => tb { D with nx := I (i + 1), ct := I (i + 1), bk := D.nx } σ2 H2) : ∃ a, V.ref p = V.ref a ∧ (∃ xs, SqT K H a xs) ∧ LoopR (Itt K a) g tb D σ H := by
  refine ⟨p, rfl, ⟨xs, keep 0 σ H h0⟩, loop_n xs.length I h0 (fun σ H h => ⟨xs, keep _ σ H h, Nat.le_refl _⟩) (fun i σ H h z => ⟨xs, _, keep _ σ H h, List.getElem?_eq_getElem z⟩) hx fun i x σ H H' z h y => ?_⟩
  obtain ⟨rfl, y⟩ := y
  exact hb i x σ _ (y xs (keep _ σ _ h)) h
theorem loopS {z : Str} {g : TG} {tb : TS} (I : Nat → L2.St → Hp → Prop) (h0 : I 0 σ H) (hx : ∀ σ H, I z.length σ H → D.nx σ H)
    (hb : ∀ i c σ H, z.cps[i]? = some c → I i σ H → g (.str ⟨#[c]⟩) σ H fun σ2 H2 => tb { D with nx := I (i + 1), ct := I (i + 1), bk := D.nx } σ2 H2) : ∃ x, V.str z = V.str x ∧ LoopR (Its x) g tb D σ H := by
  refine ⟨z, rfl, loop_n z.cps.size I h0 (fun σ H h => Nat.le_refl _) (fun i σ H h q => q) hx fun i x σ H H' q h y => ?_⟩
  obtain ⟨rfl, c, e, rfl⟩ := y
  exact hb i c σ _ e h
theorem loopR {lo : Int} {n : Nat} {g : TG} {tb : TS} (I : Nat → L2.St → Hp → Prop) (h0 : I 0 σ H) (hx : ∀ σ H, I n σ H → D.nx σ H)
    (hb : ∀ i σ H, i < n → I i σ H → g (.int (lo + i)) σ H fun σ2 H2 => tb { D with nx := I (i + 1), ct := I (i + 1), bk := D.nx } σ2 H2) : LoopR (Itr lo n) g tb D σ H := by
  refine loop_n n I h0 (fun σ H h => Nat.le_refl _) (fun i σ H h q => q) hx fun i x σ H H' q h y => ?_
  obtain ⟨rfl, rfl⟩ := y
  exact hb i σ _ q h
theorem s_rng1 {g : TG} {tb : TS} {j : Int} (c : 0 ≤ j ∧ j < 2 ^ 62) (h : LoopR (Itr 0 j.toNat) g tb D σ H) : ∃ j' : Int, [V.int j] = [V.int j'] ∧ -(2 ^ 62) ≤ j' ∧ j' < 2 ^ 62 ∧ LoopR (Itr 0 j'.toNat) g tb D σ H := ⟨j, rfl, by omega, c.2, h⟩
/-! ### [.. for .. in ..] -/
def LcR (J : It) (g : TG) (tt : TT) (te : TE) (vs : List Nat) (Q : VK) : L2.St → Hp → Prop := fun σ H1 => ∀ D, H1 D = none → ∃ W : Nat → Nat → Hp → Prop, (∃ m, W 0 m (upd H1 D (.lst []))) ∧ ∀ i m H, W i m H →
  (J.stop i H ∧ Q (.ref D) H) ∨ (J.go i H ∧ ∃ Nx : Hp → Prop, (∀ H', Nx H' → ∃ m', m' < m ∧ W (i + 1) m' H') ∧ ∀ x H', J.yld i H x H' → g x (wipe σ vs) H' fun σ2 H2 => wipe σ2 vs = wipe σ vs ∧ tt σ2 H2 fun b H3 =>
    if b = true then te σ2 H3 fun y H4 => ∃ acc, H4 D = some (.lst acc) ∧ acc.length < sizeLine ∧ Nx (upd H4 D (.lst (acc ++ [y]))) else Nx H3)
theorem s_lc {wi : TI} {g : TG} {tt : TT} {te : TE} {vs : List Nat} {Q : VK} (h : wi σ H fun J H1 => LcR J g tt te vs Q σ H1) : tLc wi g tt te vs σ H Q := h
theorem ex_put {H1 H5 : Hp} {D : Addr} {o : HO} (n : H1 D = none) (e : Ex H1 H5) : Ex H1 (upd H5 D o) := fun a q z => by
  rw [upd_ne (fun y => by rw [y, n] at z; cases z)]
  exact e a q z
theorem lc_n {J : It} {g : TG} {tt : TT} {te : TE} {vs : List Nat} {Q : VK} (n : Nat) (I : Addr → Nat → List V → Hp → Prop) (h0 : ∀ D, H D = none → I D 0 [] (upd H D (.lst [])))
    (hs : ∀ D acc H, I D n acc H → J.stop n H) (hg : ∀ D i acc H, I D i acc H → i < n → J.go i H) (hx : ∀ D acc H', H D = none → I D n acc H' → Q (.ref D) H')
    (hb : ∀ D i x acc H2 H', H D = none → i < n → I D i acc H2 → J.yld i H2 x H' → g x (wipe σ vs) H' fun σ2 H3 => wipe σ2 vs = wipe σ vs ∧ tt σ2 H3 fun b H4 => if b = true then te σ2 H4 fun y H5 => ∃ acc, H5 D = some (.lst acc) ∧ acc.length < sizeLine ∧ ∃ acc', I D (i + 1) acc' (upd H5 D (.lst (acc ++ [y]))) else ∃ acc, I D (i + 1) acc H4) : LcR J g tt te vs Q σ H := by
  intro D hD
  refine ⟨fun i m H => i + m = n ∧ ∃ acc, I D i acc H, ⟨n, by omega, [], h0 D hD⟩, fun i m H' ⟨e, acc, h⟩ => ?_⟩
  by_cases z : i < n
  · exact .inr ⟨hg D i acc H' h z, fun H' => ∃ acc, I D (i + 1) acc H', fun H2 h' => ⟨m - 1, by omega, by omega, h'⟩, fun x H2 y => hb D i x acc H' H2 hD z h y⟩
  · have : i = n := by omega
    subst this
    exact .inl ⟨hs D acc H' h, hx D acc H' hD h⟩
/-- over a list, all of it kept -/
theorem lcL {K : PySem.W.Frag} {p : Addr} {xs : List V} {g : TG} {tt : TT} {te : TE} {vs : List Nat} {Q : VK} (hp : SqL K H p xs) (I : Addr → Nat → List V → Hp → Prop) (h0 : ∀ D, H D = none → I D 0 [] (upd H D (.lst [])))
    (he : ∀ D i acc H', I D i acc H' → Ex H H') (hx : ∀ D acc H', H D = none → I D xs.length acc H' → Q (.ref D) H')
    (hb : ∀ D i x acc H', H D = none → xs[i]? = some x → I D i acc H' → g x (wipe σ vs) H' fun σ2 H3 => wipe σ2 vs = wipe σ vs ∧ tt σ2 H3 fun b H4 => if b = true then te σ2 H4 fun y H5 => ∃ acc, H5 D = some (.lst acc) ∧ acc.length < sizeLine ∧ ∃ acc', I D (i + 1) acc' (upd H5 D (.lst (acc ++ [y]))) else ∃ acc, I D (i + 1) acc H4) : ∃ a, V.ref p = V.ref a ∧ (∃ xs, SqL K H a xs) ∧ LcR (Itl K a) g tt te vs Q σ H := by
  refine ⟨p, rfl, ⟨xs, hp⟩, lc_n xs.length I h0 (fun D acc H' h => ⟨xs, Evl.ex_l (he _ _ _ _ h) hp, Nat.le_refl _⟩) (fun D i acc H' h z => ⟨xs, _, Evl.ex_l (he _ _ _ _ h) hp, List.getElem?_eq_getElem z⟩) hx fun D i x acc H2 H' n z h y => ?_⟩
  obtain ⟨rfl, y⟩ := y
  exact hb D i x acc _ n (y xs (Evl.ex_l (he _ _ _ _ h) hp)) h
theorem s_lcPut {Hd H5 : Hp} {d : Addr} {acc : List V} {y : V} {I : Addr → Nat → List V → Hp → Prop} {i : Nat} (h : H5 d = some (.lst acc)) (l : acc.length < sizeLine) (n : Hd d = none) (e : Ex Hd H5) (q : ∀ H6, Ex Hd H6 → (∀ a o, a ≠ d → H5 a = some o → H6 a = some o) → H6 d = some (.lst (acc ++ [y])) → I d i (acc ++ [y]) H6) :
    ∃ acc, H5 d = some (.lst acc) ∧ acc.length < sizeLine ∧ ∃ acc', I d i acc' (upd H5 d (.lst (acc ++ [y]))) := ⟨acc, h, l, _, q _ (ex_put n e) (fun a o z w => by rw [upd_ne z]; exact w) upd_same⟩
theorem s_if1 {P : Prop} {x : Bool} (h : x = true → P) (h2 : x = false → P) : P := by cases x <;> simp_all
theorem Ex.sl {K : PySem.W.Frag} {H H' : Hp} {p : Addr} {xs : List V} (h : SqL K H p xs) (e : Ex H H') : SqL K H' p xs := Evl.ex_l e h
theorem Ex.st {K : PySem.W.Frag} {H H' : Hp} {p : Addr} {xs : List V} (h : SqT K H p xs) (e : Ex H H') : SqT K H' p xs := Evl.ex_t e h
/-! ### while -/
theorem s_turn {tb : TS} {m : Nat} {W : Nat → L2.St → Hp → Prop} (h : tb { D with nx := fun σ' H' => ∃ m', m' < m ∧ W m' σ' H', ct := fun σ' H' => ∃ m', m' < m ∧ W m' σ' H', bk := D.nx } σ H) : ∃ N : L2.St → Hp → Prop, (∀ σ' H', N σ' H' → ∃ m', m' < m ∧ W m' σ' H') ∧ tb { D with nx := N, ct := N, bk := D.nx } σ H := ⟨_, fun _ _ h => h, h⟩
end
end Uv

set_option Elab.async false
set_option linter.all false
set_option maxRecDepth 100000
set_option maxHeartbeats 4000000
namespace Uv
open PySem PySem.Spec L2
open PyProof.Rows hiding St
/-! methods of a text with one text -/
def uM1 (C : Str → Str → Prop) (g : Str → Str → V) : V → List V → Hp → VK → Prop := fun x xs H Q => match x, xs with
  | .str a, [.str b] => C a b ∧ Q (g a b) H
  | _, _ => False
def uPart : V → List V → Hp → VK → Prop := fun x xs H Q => match x, xs with
  | .str a, [.str b] => (b.length == 0) = false ∧ a.length ≤ sizeLine ∧ ∀ p, H p = none → Q (.ref p) (upd H p (.tup [.str (Txt.partition a b).1, .str (Txt.partition a b).2.1, .str (Txt.partition a b).2.2]))
  | _, _ => False
def uSplit : V → List V → Hp → VK → Prop := fun x xs H Q => match x, xs with
  | .str a, [.str b] => (b.length == 0) = false ∧ a.length + 2 ≤ sizeLine ∧ ∀ p, H p = none → Q (.ref p) (upd H p (.lst ((Txt.split a b).map V.str)))
  | _, _ => False
def uIsB (neg : Bool) : R2 := fun x y H Q => match x, y with
  | .bl a, .bl b => Q (.bl (neg.xor (decide (a = b)))) H
  | _, _ => False
def uIsN : R2 := fun x y H Q => y = .non ∧ Q (.bl (decide (x = .non))) H
def uNotN : R2 := fun x y H Q => y = .non ∧ Q (.bl (!decide (x = .non))) H
def tJd (ts : List TE) : TE := fun σ H Q => tJs ts Str.empty σ H fun out H1 => Q (.str out) H1
def uList (K : PySem.W.Frag) : List V → Hp → VK → Prop := fun xs H Q => match xs with
  | [.ref p] => ∃ ys, (SqL K H p ys ∨ SqT K H p ys) ∧ ∀ l, H l = none → Q (.ref l) (upd H l (.lst ys))
  | _ => False
section
variable {X : Cx}
theorem mt_uSw : MtR X "str.startswith" (uM1 (fun _ _ => True) fun a b => .bl (Txt.startswith a b)) := by
  intro pins s σ H x xs v us Q I rx rs h
  match x, xs, h with
  | .str a, [.str b], h => exact mt_startswith pins s σ H _ _ v us Q I rx rs ⟨a, b, rfl, rfl, h.2⟩
theorem mt_uEw : MtR X "str.endswith" (uM1 (fun _ _ => True) fun a b => .bl (Txt.endswith a b)) := by
  intro pins s σ H x xs v us Q I rx rs h
  match x, xs, h with
  | .str a, [.str b], h => exact mt_endswith pins s σ H _ _ v us Q I rx rs ⟨a, b, rfl, rfl, h.2⟩
theorem mt_uFind : MtR X "str.find" (uM1 (fun _ _ => True) fun a b => .int (Txt.find a b)) := by
  intro pins s σ H x xs v us Q I rx rs h
  match x, xs, h with
  | .str a, [.str b], h => exact mt_find pins s σ H _ _ v us Q I rx rs ⟨a, b, rfl, rfl, h.2⟩
theorem mt_uCount : MtR X "str.count" (uM1 (fun _ _ => True) fun a b => .int (Txt.count a b)) := by
  intro pins s σ H x xs v us Q I rx rs h
  match x, xs, h with
  | .str a, [.str b], h => exact mt_count pins s σ H _ _ v us Q I rx rs ⟨a, b, rfl, rfl, h.2⟩
theorem mt_uPart : MtR X "str.partition" uPart := by
  intro pins s σ H x xs v us Q I rx rs h
  match x, xs, h with
  | .str a, [.str b], h => exact mt_partition pins s σ H _ _ v us Q I rx rs ⟨a, b, rfl, rfl, h⟩
theorem mt_uSplit : MtR X "str.split" uSplit := by
  intro pins s σ H x xs v us Q I rx rs h
  match x, xs, h with
  | .str a, [.str b], h => exact mt_split pins s σ H _ _ v us Q I rx rs ⟨a, b, rfl, rfl, h⟩
theorem op_uIsB : OpR X (compareOp .Is) (uIsB false) := by
  intro pins s σ H x y v u Q I rx ry h
  cases x with
  | bl a =>
    cases y with
    | bl b => exact op_is_bl pins s σ H _ _ _ _ Q I rx ry ⟨a, b, rfl, rfl, by simpa [uIsB] using h⟩
    | _ => exact h.elim
  | _ => exact h.elim
theorem op_uNotB : OpR X (compareOp .IsNot) (uIsB true) := by
  intro pins s σ H x y v u Q I rx ry h
  cases x with
  | bl a =>
    cases y with
    | bl b => exact op_isnot_bl pins s σ H _ _ _ _ Q I rx ry ⟨a, b, rfl, rfl, by simpa [uIsB] using h⟩
    | _ => exact h.elim
  | _ => exact h.elim
theorem op_uIsN : OpR X (compareOp .Is) uIsN := op_isN
theorem op_uNotN : OpR X (compareOp .IsNot) uNotN := op_notN
theorem pe_jd {v1 v2 : Expr} {rest : List Expr} {ts : List TE} {pos : Pos} (h : PJ X (v1 :: v2 :: rest) ts) : PE X (.JoinedStr (v1 :: v2 :: rest) pos) (tJd ts) := pe_joined h
theorem call_uList : CallR X (.type "list") (uList X.K) := by
  intro pins s σ H xs us Q I r h
  match xs, h with
  | [.ref p], ⟨ys, h1, h2⟩ => exact call_list_of pins s σ H _ us Q I r ⟨p, ys, rfl, h1, h2⟩
end
section
variable {σ : L2.St} {H : Hp} {Q : VK} {QB : Bool → Hp → Prop} {D : Ends} {ta tb to te td ty tv : TE} {v x y : V} {i : Nat} {K : PySem.W.Frag}
theorem s_m1 {r : V → List V → Hp → VK → Prop} (h : to σ H fun x H1 => (∃ a, x = .str a) ∧ te σ H1 fun y H2 => r x [y] H2 Q) : tM1 r to te σ H Q := h
theorem s_isS {a : Str} {P : Prop} (h : P) : (∃ b, V.str a = V.str b) ∧ P := ⟨⟨a, rfl⟩, h⟩
theorem s_um1 {g : Str → Str → V} {a b : Str} (h : Q (g a b) H) : uM1 (fun _ _ => True) g (.str a) [.str b] H Q := ⟨trivial, h⟩
theorem s_upart {a b : Str} (c : (b.length == 0) = false) (l : a.length ≤ sizeLine) (h : ∀ p, H p = none → Q (.ref p) (upd H p (.tup [.str (Txt.partition a b).1, .str (Txt.partition a b).2.1, .str (Txt.partition a b).2.2]))) : uPart (.str a) [.str b] H Q := ⟨c, l, h⟩
theorem s_usplit {a b : Str} (c : (b.length == 0) = false) (l : a.length + 2 ≤ sizeLine) (h : ∀ p, H p = none → Q (.ref p) (upd H p (.lst ((Txt.split a b).map V.str)))) : uSplit (.str a) [.str b] H Q := ⟨c, l, h⟩
theorem s_isB {neg a b : Bool} (h : Q (.bl (neg.xor (decide (a = b)))) H) : uIsB neg (.bl a) (.bl b) H Q := h
theorem s_isn (h : Q (.bl (decide (x = .non))) H) : uIsN x .non H Q := ⟨rfl, h⟩
theorem s_notn (h : Q (.bl (!decide (x = .non))) H) : uNotN x .non H Q := ⟨rfl, h⟩
theorem s_jd {ts : List TE} (h : tJs ts Str.empty σ H fun out H1 => Q (.str out) H1) : tJd ts σ H Q := h
theorem s_jn {acc : Str} {QS : Str → Hp → Prop} (h : QS acc H) : tJs [] acc σ H QS := h
theorem s_jc {t : TE} {ts : List TE} {acc : Str} {QS : Str → Hp → Prop} (h : t σ H fun x H1 => ∃ y : Str, x = .str y ∧ (acc ++ y).length ≤ sizeLine ∧ tJs ts (acc ++ y) σ H1 QS) : tJs (t :: ts) acc σ H QS := h
theorem s_fmt (h : te σ H fun x H1 => (∃ y : Str, x = .str y ∧ y.length ≤ sizeLine ∧ Q (.str y) H1) ∨ ∃ i : Int, x = .int i ∧ i.natAbs.log2 < 1920 ∧ Q (.str (toString i)) H1) : tFmt te σ H Q := h
theorem s_itl {R : It → Hp → Prop} (h : te σ H fun x H1 => ∃ a, x = .ref a ∧ (∃ xs, SqL K H1 a xs) ∧ R (Itl K a) H1) : iList K te σ H R := h
theorem s_itt {R : It → Hp → Prop} (h : te σ H fun x H1 => ∃ a, x = .ref a ∧ (∃ xs, SqT K H1 a xs) ∧ R (Itt K a) H1) : iTup K te σ H R := h
theorem s_its {R : It → Hp → Prop} (h : te σ H fun v H1 => ∃ x, v = .str x ∧ R (Its x) H1) : iStr te σ H R := h
theorem s_itr {R : It → Hp → Prop} {ts : TA} (h : ts σ H fun vs H1 => ∃ j : Int, vs = [.int j] ∧ -(2 ^ 62) ≤ j ∧ j < 2 ^ 62 ∧ R (Itr 0 j.toNat) H1) : iRng1 ts σ H R := h
theorem s_itr2 {R : It → Hp → Prop} {ts : TA} (h : ts σ H fun vs H1 => ∃ i j : Int, vs = [.int i, .int j] ∧ (-(2 ^ 62) ≤ i ∧ i < 2 ^ 62 ∧ -(2 ^ 62) ≤ j ∧ j < 2 ^ 62) ∧ R (Itr i (j - i).toNat) H1) : iRng2 ts σ H R := h
theorem s_disp {trs : List (TE × TE)} (h : ∀ p, H p = none → tPairs trs σ (upd H p (.dK [])) fun ps H2 => H2 p = some (.dK []) ∧ ∃ kvs : List (Key × V), ps = kvs.map (fun kv => (kV kv.1, kv.2)) ∧ kvs.length ≤ 15 ∧ Q (.ref p) (upd H2 p (.dK (mergeK [] kvs)))) : tDisp trs σ H Q := h
theorem s_prn {QP : List (V × V) → Hp → Prop} (h : QP [] H) : tPairs [] σ H QP := h
theorem s_prc {tk tv : TE} {r : List (TE × TE)} {QP : List (V × V) → Hp → Prop} (h : tk σ H fun x H1 => tv σ H1 fun y H2 => tPairs r σ H2 fun ps H3 => QP ((x, y) :: ps) H3) : tPairs ((tk, tv) :: r) σ H QP := h
theorem s_gt {p : Addr} {xs : List V} {n : Nat} {t : TGs} {R : L2.St → Hp → Prop} (hs : SqT K H p xs) (hl : xs.length = n) (h : t xs σ H R) : gTup K n t (.ref p) σ H R := ⟨p, xs, rfl, hs, hl, h⟩
theorem s_gc {t : TG} {u : TGs} {r : List V} {R : L2.St → Hp → Prop} (h : t v σ H fun σ' H' => u r σ' H' R) : gCons t u (v :: r) σ H R := ⟨v, r, rfl, h⟩
theorem s_gnil {R : L2.St → Hp → Prop} (h : R σ H) : gNil [] σ H R := ⟨rfl, h⟩
theorem s_yes (h : QB true H) : tYes σ H QB := h
theorem s_listL {p : Addr} {ys : List V} (hs : SqL K H p ys) (h : ∀ l, H l = none → Q (.ref l) (upd H l (.lst ys))) : uList K [.ref p] H Q := ⟨ys, .inl hs, h⟩
theorem s_listT {p : Addr} {ys : List V} (hs : SqT K H p ys) (h : ∀ l, H l = none → Q (.ref l) (upd H l (.lst ys))) : uList K [.ref p] H Q := ⟨ys, .inr hs, h⟩
theorem s_inT {p : Addr} {xs : List V} (h : SqT K H p xs) (fx : flatV x = true) (fs : xs.all flatV = true) (q : Q (.bl (inV x xs)) H) : rIn K false x (.ref p) H Q := ⟨p, xs, rfl, .inr h, fx, fs, q⟩
theorem s_inL {p : Addr} {xs : List V} (h : SqL K H p xs) (fx : flatV x = true) (fs : xs.all flatV = true) (q : Q (.bl (inV x xs)) H) : rIn K false x (.ref p) H Q := ⟨p, xs, rfl, .inl h, fx, fs, q⟩
/-- the field of the exception that the suite's name holds -/
theorem s_xfV {a C dd : Addr} {f : Str} {fs : List (Str × V)} (hv : σ[i]? = some (some (.ref a))) (e : H dd = some (.xd fs)) (el : fs.lookup f = some v) (q : Q v H) : tXf a (.ref C) (some dd) C f (tVar i) σ H Q := ⟨_, hv, rfl, rfl, dd, fs, v, rfl, e, el, q⟩
theorem s_raise {C : Addr} {fs : List Str} {W : WX} {ts : TA} (h : ts σ H fun vs H1 => vs.length = fs.length ∧ ∀ d, H1 d = none → W (.ref C) (some d) σ (upd H1 d (.xd (fs.zip vs).reverse))) : tRaiseX C fs W ts D σ H := h
theorem s_isXr {a dC dd C : Addr} {fs : List (Str × V)} {b : Bool} (e : H dd = some (.xd fs)) (ec : ExcC K dC) (hk : PySem.W.kitOne K (.ref dC) (.ref C) = some b) (q : Q (.bl b) H) : rIsX K a (.ref dC) (some dd) [.ref a, .ref C] H Q := ⟨dC, dd, fs, rfl, rfl, e, ec, .inl ⟨_, _, b, rfl, .own C, hk, q⟩⟩
theorem s_isXt {a dC dd : Addr} {n : String} {fs : List (Str × V)} {b : Bool} (e : H dd = some (.xd fs)) (ec : ExcC K dC) (hk : PySem.W.kitOne K (.ref dC) (.type n) = some b) (q : Q (.bl b) H) : rIsX K a (.ref dC) (some dd) [.ref a, .ty n] H Q := ⟨dC, dd, fs, rfl, rfl, e, ec, .inl ⟨_, _, b, rfl, .ty n, hk, q⟩⟩
/-- the clause whose class it is -/
theorem s_hit {X1 : WX} {cl : Cl} {r : List Cl} {cls : Value} {d : Option Addr} (hb : PySem.W.exmOne K cls cl.c = some true) (h : ∀ a, H a = none → cl.ts a cls d (endO D cl.i) (setO σ cl.i (some (.ref a))) H) : wCl K X1 D (cl :: r) cls d σ H := ⟨true, hb, fun _ => h, fun z => by cases z⟩
theorem s_miss {X1 : WX} {cl : Cl} {r : List Cl} {cls : Value} {d : Option Addr} (hb : PySem.W.exmOne K cls cl.c = some false) (h : wCl K X1 D r cls d σ H) : wCl K X1 D (cl :: r) cls d σ H := ⟨false, hb, (fun z => by cases z), fun _ => h⟩
end
end Uv

set_option Elab.async false
set_option linter.all false
set_option maxRecDepth 100000
set_option maxHeartbeats 4000000
namespace Uv
open PySem PySem.Spec L2
open PyProof.Rows hiding St
/-! ### terms that lay plain data -/
def DE (K : PySem.W.Frag) (σ : L2.St) (H0 : Hp) (te : TE) (d : PyData) : Prop := ∀ (H : Hp) (Q : VK), Ex H0 H → (∀ v H', Ex H H' → Dp K H' v d → Q v H') → te σ H Q
def DA (K : PySem.W.Frag) (σ : L2.St) (H0 : Hp) (ts : TA) (ds : List PyData) : Prop := ∀ (H : Hp) (Q : List V → Hp → Prop), Ex H0 H → (∀ vs H', Ex H H' → DpAll K H' vs ds → Q vs H') → ts σ H Q
section
variable {K : PySem.W.Frag} {σ : L2.St} {H0 H : Hp} {te : TE} {ts : TA} {d : PyData} {ds : List PyData} {Q : VK}
theorem de_non : DE K σ H0 (tC .non) .none := fun H Q _ h => h _ _ (exR H) .non
theorem de_bl (b : Bool) : DE K σ H0 (tC (.bl b)) (.bool b) := fun H Q _ h => h _ _ (exR H) (.bl b)
theorem de_int (i : Int) : DE K σ H0 (tC (.int i)) (.int i) := fun H Q _ h => h _ _ (exR H) (.int i)
theorem de_str (z : Str) : DE K σ H0 (tC (.str z)) (.str z) := fun H Q _ h => h _ _ (exR H) (.str z)
theorem de_neg (i : Int) : DE K σ H0 (tUn (rU fun i => .int (-i)) (tC (.int i))) (.int (-i)) := fun H Q _ h => ⟨i, rfl, h _ _ (exR H) (.int (-i))⟩
theorem da_nil : DA K σ H0 tNil [] := fun H Q _ h => h _ _ (exR H) .nil
theorem da_cons (h1 : DE K σ H0 te d) (h2 : DA K σ H0 ts ds) : DA K σ H0 (tCons te ts) (d :: ds) := fun H Q e h =>
  h1 H _ e fun v H1 e1 dv => h2 H1 _ (e.tr e1) fun vs H2 e2 dvs => h _ _ (e1.tr e2) (.cons (dp_ex e2 d v dv) dvs)
theorem dpa_length : ∀ {xs : List V} {ds : List PyData}, DpAll K H xs ds → xs.length = ds.length
  | _, _, .nil => rfl
  | _, _, .cons _ r => congrArg (· + 1) (dpa_length r)
theorem de_tup (h1 : DA K σ H0 ts ds) (l : ds.length ≤ 1000) : DE K σ H0 (tTup ts) (.tuple ds) := fun H Q e h =>
  h1 H _ e fun vs H1 e1 dvs => ⟨by rw [dpa_length dvs]; exact Nat.le_trans l (by decide), fun p n => h _ _ (e1.tr (exN n)) (.tup (.of upd_same) (dpa_ex (exN n) ds vs dvs))⟩
theorem de_lst (h1 : DA K σ H0 ts ds) (l : ds.length ≤ 1000) : DE K σ H0 (tLst ts) (.list ds) := fun H Q e h =>
  h1 H _ e fun vs H1 e1 dvs => ⟨by rw [dpa_length dvs]; exact Nat.le_trans l (by decide), fun p n => h _ _ (e1.tr (exN n)) (.lst (.of upd_same) (dpa_ex (exN n) ds vs dvs))⟩
/-- a list of data laid -/
theorem s_dlst (h1 : DA K σ H ts ds) (l : ds.length ≤ 1000) (q : ∀ p vs H', Ex H H' → H' p = some (.lst vs) → DpAll K H' vs ds → Q (.ref p) H') : tLst ts σ H Q :=
  h1 H _ (exR H) fun vs H1 e1 dvs => ⟨by rw [dpa_length dvs]; exact Nat.le_trans l (by decide), fun p n => q p vs _ (e1.tr (exN n)) upd_same (dpa_ex (exN n) ds vs dvs)⟩
theorem s_data (h1 : DE K σ H te d) (q : ∀ v H', Ex H H' → Dp K H' v d → Q v H') : te σ H Q := h1 H _ (exR H) q
/-- the same, found by the shape of the term -/
class DEc (K : PySem.W.Frag) (σ : L2.St) (H0 : Hp) (te : TE) (d : outParam PyData) : Prop where
  h : DE K σ H0 te d
class DAc (K : PySem.W.Frag) (σ : L2.St) (H0 : Hp) (n : Nat) (ts : TA) (ds : outParam (List PyData)) : Prop where
  h : DA K σ H0 ts ds
  l : ds.length ≤ n
instance : DEc K σ H0 (tC .non) .none := ⟨de_non⟩
instance (b : Bool) : DEc K σ H0 (tC (.bl b)) (.bool b) := ⟨de_bl b⟩
instance (i : Int) : DEc K σ H0 (tC (.int i)) (.int i) := ⟨de_int i⟩
instance (z : Str) : DEc K σ H0 (tC (.str z)) (.str z) := ⟨de_str z⟩
instance (i : Int) : DEc K σ H0 (tUn (rU fun i => .int (-i)) (tC (.int i))) (.int (-i)) := ⟨de_neg i⟩
instance {n : Nat} : DAc K σ H0 n tNil [] := ⟨da_nil, Nat.zero_le _⟩
instance {n : Nat} {te d ts ds} [h1 : DEc K σ H0 te d] [h2 : DAc K σ H0 n ts ds] : DAc K σ H0 (n + 1) (tCons te ts) (d :: ds) := ⟨da_cons h1.h h2.h, Nat.succ_le_succ h2.l⟩
instance {ts ds} [h : DAc K σ H0 100 ts ds] : DEc K σ H0 (tTup ts) (.tuple ds) := ⟨de_tup h.h (Nat.le_trans h.l (by decide))⟩
instance {ts ds} [h : DAc K σ H0 100 ts ds] : DEc K σ H0 (tLst ts) (.list ds) := ⟨de_lst h.h (Nat.le_trans h.l (by decide))⟩
theorem s_dl [h : DAc K σ H 100 ts ds] (q : ∀ p vs H', Ex H H' → H' p = some (.lst vs) → DpAll K H' vs ds → Q (.ref p) H') : tLst ts σ H Q := s_dlst h.h (Nat.le_trans h.l (by decide)) q
/-- list(x) of a tuple that stands -/
theorem de_listT {i : Nat} {p : Addr} {xs : List V} (hv : σ[i]? = some (some (.ref p))) (hs : SqT K H0 p xs) (hd : DpAll K H0 xs ds) : DEc K σ H0 (tCB (uList K) (tCons (tVar i) tNil)) (.list ds) :=
  ⟨fun H Q e h => ⟨_, hv, xs, .inr (Ex.st hs e), fun l n => h _ _ (exN n) (.lst (.of upd_same) (dpa_ex (Ex.tr e (exN n)) ds xs hd))⟩⟩
theorem dpa_get {xs : List V} {ds : List PyData} {i : Nat} {x : V} (h : DpAll K H xs ds) (e : xs[i]? = some x) : ∃ d, ds[i]? = some d ∧ d ∈ ds ∧ Dp K H x d := by
  induction h using DpAll.rec (motive_1 := fun _ _ _ => True) generalizing i with
  | nil => cases e
  | @cons v vs d ds hd hr _ ih =>
    cases i with
    | zero => cases e; exact ⟨d, rfl, List.mem_cons_self, hd⟩
    | succ i =>
      obtain ⟨d', h1, h2, h3⟩ := ih e
      exact ⟨d', h1, List.mem_cons_of_mem _ h2, h3⟩
  | _ => trivial
theorem dpa_app {xs ys : List V} {ds es : List PyData} (h : DpAll K H xs ds) (g : DpAll K H ys es) : DpAll K H (xs ++ ys) (ds ++ es) := by
  induction h using DpAll.rec (motive_1 := fun _ _ _ => True) with
  | nil => exact g
  | @cons v vs d ds hd hr _ ih => exact .cons hd ih
  | _ => trivial
end
end Uv

set_option Elab.async false
set_option linter.all false
set_option maxRecDepth 100000
set_option maxHeartbeats 4000000
namespace Hk
open PySem PySem.W PySem.Calls PyProof.Rows He He5
/-! ### what is seen behind the top: Bools of the written part, defs, methods of own exceptions -/
abbrev FnXW : Type := Option (PySem.Str × PySem.Str × Arguments × FuncBody × Scope × Addr × List PySem.Str × Addr)
def fnXa (K : Frag) (a : Addr) : FnXW := match K.lookup a with
  | some ⟨_, _, .func fd, _⟩ => some (fd.name, fd.qualname, fd.params, fd.body, fd.scope, fd.globals, fd.closure.map (·.1), fd.builtins)
  | _ => none
/-- an __init__ that says super() -/
structure XI where
  x : PySem.Str
  params : Arguments
  body : List Stmt
  scope : Scope
def XI.val (d : XI) : FnXW := some ("__init__", d.x ++ ".__init__", d.params, .stmts d.body, d.scope, mainGlobals, ["__class__"], builtinsNs)
def XI.at_ (d : XI) (K : Frag) : Addr := ma K (ga K d.x) "__init__"
abbrev AlO : Type := Bool × List He.FnW × List FnXW
def obsO (fb : List (Frag → Bool)) (fn : List DefA) (xs : List XI) (K : Frag) : AlO := ((fb.all fun f => f K) && fn.all fun d => d.ok K, fn.map (fun d => fnA K (d.at_ K)), xs.map fun d => fnXa K (d.at_ K))
def valO (fn : List DefA) (xs : List XI) : AlO := (true, fn.map DefA.val, xs.map XI.val)
def SaysO (fb : List (Frag → Bool)) (fn : List DefA) (xs : List XI) (K : Frag) : Prop := obsO fb fn xs K = valO fn xs
def obsOG (n : Nat) (fb : List (Frag → Bool)) (fn : List DefA) (xs : List XI) (g : Addr → Option Obj) : AlO := obsO fb fn xs (frG g (asA g n))
def hookO (n : Nat) (fb : List (Frag → Bool)) (fn : List DefA) (xs : List XI) : PySem.W.Hook where
  α := AlO
  obs := fun s => obsOG n fb fn xs s.heap.get?
  val := fun _ => valO fn xs
  says := fun _ h => ∃ K : Frag, K.In h ∧ SaysO fb fn xs K
  of := fun _ _ e => ⟨_, frG_in, e⟩
  keeps := fun _ _ _ ⟨K, hK, c⟩ k => ⟨K, Frag.In.keeps hK k, c⟩
theorem obsOG_eq {n : Nat} {fb : List (Frag → Bool)} {fn : List DefA} {xs : List XI} {g : Addr → Option Obj} {s : Shared} (h : ∀ a, g a = s.heap.get? a) : obsOG n fb fn xs g = (hookO n fb fn xs).obs s := by
  have e : g = s.heap.get? := funext h
  rw [e] <;> rfl
section
variable {fb : List (Frag → Bool)} {fn : List DefA} {xs : List XI} {K : Frag}
theorem SaysO.fact (c : SaysO fb fn xs K) (i : Nat) {f : Frag → Bool} (h : fb[i]? = some f := by rfl) : f K = true := by
  have c1 := (ba (show ((fb.all fun f => f K) && fn.all fun d => d.ok K) = true from congrArg (fun z : AlO => z.1) c)).1
  exact List.all_eq_true.mp c1 f (List.mem_of_getElem? h)
theorem SaysO.def_ (c : SaysO fb fn xs K) (i : Nat) {d : DefA} (h : fn[i]? = some d := by rfl) : ∃ fd, L2.FunD K d.name d.qual d.params d.body d.scope (d.dvs K) (d.kws K) (d.at_ K) fd := by
  have c2 := (ba (show ((fb.all fun f => f K) && fn.all fun d => d.ok K) = true from congrArg (fun z : AlO => z.1) c)).2
  have e : fn.map (fun d => fnA K (d.at_ K)) = fn.map DefA.val := congrArg (fun z : AlO => z.2.1) c
  have e2 : (fn.map fun d => fnA K (d.at_ K))[i]? = (fn.map DefA.val)[i]? := by rw [e]
  rw [List.getElem?_map, List.getElem?_map, h] at e2
  exact DefA.funD (Option.some.inj e2) (List.all_eq_true.mp c2 d (List.mem_of_getElem? h))
theorem SaysO.xi (c : SaysO fb fn xs K) (i : Nat) {d : XI} (h : xs[i]? = some d := by rfl) : fnXa K (d.at_ K) = d.val := by
  have e : xs.map (fun d => fnXa K (d.at_ K)) = xs.map XI.val := congrArg (fun z : AlO => z.2.2) c
  have e2 : (xs.map fun d => fnXa K (d.at_ K))[i]? = (xs.map XI.val)[i]? := by rw [e]
  rw [List.getElem?_map, List.getElem?_map, h] at e2
  exact Option.some.inj e2
end
/-! ### an own class of exceptions over ValueError (or over an own one of these) -/
def xcls (K : Frag) (C : Addr) : Bool := match K.lookup C with
  | some ⟨.type "type", _, .cls cd, sl⟩ => (match cd.mro, sl.toList with
    | .ref C' :: bm, [_, _, _, _, some (.builtin n), _] => C' == C && n == "ValueError.__new__" && !cd.hasDel && cd.hasDict && PySem.HandSPX.refsVE bm
    | _, _ => false)
  | _ => false
theorem xcls_ok {K : Frag} {C : Addr} (q : xcls K C = true) : ∃ nm q N bs bm sn sub ab col dd k0 k1 k2 k3 k5, K.lookup C = some (excClassObj nm q C N bs bm true sn sub ab col dd k0 k1 k2 k3 k5 "ValueError.__new__") ∧ PySem.HandSPX.refsVE bm = true := by
  unfold xcls at q
  split at q
  · rename_i dd cd sl ho
    split at q
    · rename_i C' bm k0 k1 k2 k3 n k5 hm hs
      simp only [Bool.and_eq_true, beq_iff_eq, Bool.not_eq_true'] at q
      obtain ⟨⟨⟨⟨rfl, rfl⟩, hdel⟩, hdi⟩, ht⟩ := q
      obtain ⟨nm, bs, mro, ns, qn, hd, sn, sub, ab, col, del⟩ := cd
      dsimp only at hm hdel hdi
      subst hm hdel hdi
      have hsl : sl = #[k0, k1, k2, k3, some (.builtin "ValueError.__new__"), k5] := by
        obtain ⟨l⟩ := sl
        simp only at hs
        rw [hs]
      subst hsl
      exact ⟨nm, qn, ns, bs, bm, sn, sub, ab, col, dd, k0, k1, k2, k3, k5, ho, ht⟩
    · cases q
  · cases q
/-- its __init__: code, file, cell -/
def xfun (F : PySem.Str) (K : Frag) (C f : Addr) (qual : PySem.Str) : Bool := match K.lookup f with
  | some ⟨_, _, .func fd, _⟩ => (match fd.code, fd.closure, fd.defaults with
    | .ref cda, [(_, cc)], .none => codeIn K (.ref cda) qual && ((match K.lookup cda with
        | some ⟨_, _, .fields vs, _⟩ => (match (vs[2]? : Option Value) with
          | some (Value.str fi _) => F == fi
          | _ => false)
        | _ => false) && (match K.lookup cc with
        | some ⟨_, _, .cell (some (.ref C')), _⟩ => C' == C
        | _ => false))
    | _, _, _ => false)
  | _ => false
def xB1 (x : PySem.Str) (fs : List PySem.Str) (K : Frag) : Bool :=
  eqO (nsIn K mainGlobals x) (some (some (.ref (ga K x)))) && (xcls K (ga K x) && (eqO (findIn K (.ref (ga K x)) "__setattr__") (some (some (.builtin "object.__setattr__"))) && (eqO (findIn K (.ref (ga K x)) "__getattribute__") (some (some (.builtin "BaseException.__getattribute__"))) &&
  (eqO (findIn K (.ref (ga K x)) "__getattr__") (some none) && (fs.all (fun f => eqO (findIn K (.ref (ga K x)) f) (some none)) && (keepIn K (.ref (ga K x)) && (decide (subIn K (.ref (ga K x)) (.type "BaseException") = some true) && (decide (subIn K (.ref (ga K x)) (.type "ValueError") = some true) &&
  (decide (typeIn K (.ref (ga K x)) = some (.type "type")) && (hasDictIn K (ga K x) && decide (mroIn K (ga K x) (.ref (ga K x)) = some true)))))))))))
def xB2 (F x : PySem.Str) (K : Frag) : Bool :=
  eqO (ks_superIn K (ga K x) (ga K x) "__init__") (some (some (.builtin "ValueError.__init__"))) && (eqO (nsIn K cStatics "thirdparty.any") (some none) && (eqO (nsIn K mainGlobals "super") (some none) && (eqO (findIn K (.ref (ga K x)) "__init__") (some (some (.ref (ma K (ga K x) "__init__")))) &&
  (decide (typeIn K (.ref (ma K (ga K x) "__init__")) = some (.type "function")) && xfun F K (ga K x) (ma K (ga K x) "__init__") (x ++ ".__init__")))))
theorem x_ok {P : Program} {K : Frag} {h : Heap} {mg : PySem.Str → Option Value} {F x : PySem.Str} {fs : List PySem.Str} (X : K.In h) (G : h.Ns mainGlobals mg) (b1 : xB1 x fs K = true) (b2 : xB2 F x K = true) {d : XI} (e : fnXa K (d.at_ K) = d.val) (dx : d.x = x)
    (hF : P.main.file = F) {msg : PySem.Str} {k : Nat} {p0 p1 p2 p3 p4 p5 : Pos} {ss : List Stmt} {pa : Arg} (hb : d.body = Xc.sup msg k p0 p1 p2 p3 p4 p5 :: ss) (st : Xc.Stos ss fs) (hpa : (d.params.posonlyargs ++ d.params.args).head? = some pa) (hps : pa.arg = "self")
    (bnd : ∀ (kV doc pm : Value) (an : Option Addr) (cdv ct : Value) (cc : Addr) (us : List Value), us.length = fs.length + 1 → bindArgs (ksFn "__init__" (x ++ ".__init__") d.params d.body d.scope .none kV doc pm an cdv ct cc) ⟨us, []⟩ = pure ((("self" : PySem.Str) :: fs).zip us))
    (scp : d.scope.kind = .function ∧ d.scope.isCoroutine = false ∧ d.scope.isGenerator = false ∧ (∀ y ∈ d.scope.names, y.2 ≠ .cell) ∧ d.scope.names.lookup ("self" : PySem.Str) = some .local ∧ (∀ f ∈ fs, d.scope.names.lookup f = some .local ∧ (f == ("__debug__" : PySem.Str)) = false) ∧
      d.scope.names.lookup ("super" : PySem.Str) = some .globalImplicit ∧ d.scope.names.lookup ("__class__" : PySem.Str) = some .free)
    (ln : (p2.endLine == p4.line) = true) (nd : ("self" :: fs : List PySem.Str).Nodup) (fl : (P.main.scope.names.lookup ("super" : PySem.Str)).isSome = false) : Xc.Txt P K mg x fs (ga K x) := by
  obtain ⟨c1, b1⟩ := ba b1
  obtain ⟨c2, b1⟩ := ba b1
  obtain ⟨c3, b1⟩ := ba b1
  obtain ⟨c4, b1⟩ := ba b1
  obtain ⟨c5, b1⟩ := ba b1
  obtain ⟨c6, b1⟩ := ba b1
  obtain ⟨c7, b1⟩ := ba b1
  obtain ⟨c8, b1⟩ := ba b1
  obtain ⟨c9, b1⟩ := ba b1
  obtain ⟨c10, b1⟩ := ba b1
  obtain ⟨c11, c12⟩ := ba b1
  obtain ⟨s1, b2⟩ := ba b2
  obtain ⟨s2, b2⟩ := ba b2
  obtain ⟨s3, b2⟩ := ba b2
  obtain ⟨s4, b2⟩ := ba b2
  obtain ⟨s5, s6⟩ := ba b2
  subst dx
  refine { gC := mg_of X G (eqO_ok c1), cls := xcls_ok c2, sa := eqO_ok c3, ga := eqO_ok c4, gg := eqO_ok c5, noF := fun f hf => eqO_ok (List.all_eq_true.mp c6 f hf), kC := c7, exC := of_decide_eq_true c8, veC := of_decide_eq_true c9, tyC := of_decide_eq_true c10, hdC := c11, self := of_decide_eq_true c12, up := eqO_ok s1, opq := eqO_ok s2, sup := mg_none_of X G (eqO_ok s3), nd := nd, file := fl, fn := ?_ }
  have e2 : fnXa K (ma K (ga K d.x) "__init__") = d.val := e
  unfold xfun at s6
  unfold fnXa at e2
  cases q : K.lookup (ma K (ga K d.x) "__init__") with
  | none => rw [q] at s6; cases s6
  | some o =>
    obtain ⟨oc, od, dt, osl⟩ := o
    rw [q] at s6 e2
    cases dt with
    | func fd =>
      obtain ⟨n1, n2, n3, n4, n5, n6, n7, n8, n9, n10, n11, n12, n13, n14, n15⟩ := fd
      have e3 : (some (n1, n2, n3, n4, n5, n6, n7.map (·.1), n15) : FnXW) = some (("__init__" : PySem.Str), d.x ++ ".__init__", d.params, FuncBody.stmts d.body, d.scope, mainGlobals, [("__class__" : PySem.Str)], builtinsNs) := e2
      simp only [Option.some.injEq, Prod.mk.injEq] at e3
      obtain ⟨h1, h2, h3, h4, h5, h6, h7, h8⟩ := e3
      dsimp only at s6
      split at s6
      · rename_i cda nm cc
        have h7' : nm = "__class__" := by simpa using h7
        subst h1 h2 h3 h4 h5 h6 h8 h7'
        obtain ⟨t1, t2⟩ := ba s6
        obtain ⟨t2, t3⟩ := ba t2
        refine ⟨ma K (ga K d.x) "__init__", cda, cc, oc, od, osl, .none, n9, n10, n11, n12, n14, msg, k, p0, p1, p2, p3, p4, p5, ss, d.params, d.scope, pa, eqO_ok s4, of_decide_eq_true s5, st, ?_, hpa, hps, ?_, scp, t1, ln, ?_, ?_⟩
        · rw [q, ← hb]
        · intro us hu
          rw [← hb]
          exact bnd n9 n10 n11 n12 (.ref cda) n14 cc us hu
        · split at t2
          · rename_i vs sl2 hvs
            split at t2
            · rename_i file tf hfi
              exact ⟨_, _, vs, _, file, tf, by assumption, hfi, by rw [hF]; exact t2⟩
            · cases t2
          · cases t2
        · split at t3
          · rename_i C' sl3 hcc
            have : C' = ga K d.x := beq_iff_eq.mp t3
            subst this
            exact ⟨_, _, _, by assumption⟩
          · cases t3
      · cases s6
    | _ => cases s6
/-- what isinstance looks at -/
def excB (x : PySem.Str) (K : Frag) : Bool :=
  eqO (findIn K (.ref (ga K x)) "__getattribute__") (some (some (.builtin "BaseException.__getattribute__"))) && (eqO (findIn K (.ref (ga K x)) "__getattr__") (some none) && (decide (subIn K (.ref (ga K x)) (.type "BaseException") = some true) && (hasDictIn K (ga K x) &&
  (eqO (findIn K (.ref (ga K x)) "__class__") (some (some (.builtin "object.__class__"))) && (eqO (specialIn K (.builtin "object.__class__") "__get__") (some (some (.builtin "getset_descriptor.__get__"))) && (decide (takesIn K (.builtin "object.__class__") = some true) && decide (mroIn K (ga K x) (.type "object") = some true)))))))
theorem excB_ok {K : Frag} {x : PySem.Str} (h : excB x K = true) : L2.ExcC K (ga K x) := by
  obtain ⟨h1, h⟩ := ba h
  obtain ⟨h2, h⟩ := ba h
  obtain ⟨h3, h⟩ := ba h
  obtain ⟨h4, h⟩ := ba h
  obtain ⟨h5, h⟩ := ba h
  obtain ⟨h6, h⟩ := ba h
  obtain ⟨h7, h8⟩ := ba h
  exact ⟨eqO_ok h1, eqO_ok h2, of_decide_eq_true h3, h4, eqO_ok h5, eqO_ok h6, of_decide_eq_true h7, of_decide_eq_true h8⟩
def kitB' (x : PySem.Str) (y : Frag → Value) (b : Bool) (K : Frag) : Bool := decide (kitOne K (.ref (ga K x)) (y K) = some b)
def gloV (x : PySem.Str) (v : Value) (K : Frag) : Bool := eqO (nsIn K mainGlobals x) (some (some v))
theorem gloV_ok {K : Frag} {h : Heap} {mg : PySem.Str → Option Value} (X : K.In h) (G : h.Ns mainGlobals mg) {x : PySem.Str} {v : Value} (c : gloV x v K = true) : mg x = some v := mg_of X G (eqO_ok c)
def fa (f : Fa) (K : Frag) : Bool := f.ok K
end Hk

set_option Elab.async false
set_option linter.all false
set_option maxRecDepth 100000
set_option maxHeartbeats 4000000
namespace Uv
open PySem PySem.Spec L2
open PyProof.Rows hiding St
/-! ### the law called behind the top, no repr running -/
def scrH (K : PySem.W.Frag) (a : Addr) (o : Obj) (xs : List V) : Hp := fun b => if ((K.lookup a).isNone && decide (b = a)) = true then some (.frz o (.lst xs)) else none
section
variable {P : Program} {w : World} {K : PySem.W.Frag} {mg mb : Str → Option Value} {a : Addr} {o : Obj} {xs : List V} {h : Heap}
theorem scr_hit {b : Addr} {u : HO} (e : scrH K a o xs b = some u) : K.lookup a = none ∧ b = a ∧ u = .frz o (.lst xs) := by
  unfold scrH at e
  split at e
  · rename_i c
    rw [Bool.and_eq_true, decide_eq_true_eq, Option.isNone_iff_eq_none] at c
    exact ⟨c.1, c.2, (Option.some.inj e).symm⟩
  · cases e
theorem scr_off {b : Addr} (n : ¬ (K.lookup a = none ∧ b = a)) : scrH K a o xs b = none := by
  cases q : scrH K a o xs b with
  | none => rfl
  | some u => exact absurd ⟨(scr_hit q).1, (scr_hit q).2.1⟩ n
theorem scr_here (n : K.lookup a = none) : scrH K a o xs a = some (.frz o (.lst xs)) := by
  unfold scrH
  rw [if_pos]
  rw [n]
  simp
theorem scr_K {b : Addr} {q : Obj} (e : K.lookup b = some q) : scrH K a o xs b = none := scr_off fun ⟨n, z⟩ => by
  rw [z, n] at e
  cases e
theorem scr_ns (ha : h.get? a = some o) (nd : ∀ es ep, o.data ≠ .dict es ep) {b : Addr} {m : Str → Option Value} (N : h.Ns b m) : (hidT h (scrH K a o xs)).Ns b m := by
  obtain ⟨q, es, ep, e, d, r⟩ := N
  refine ⟨q, es, ep, hidT_get e (scr_off fun ⟨_, z⟩ => ?_), d, r⟩
  rw [z, ha] at e
  rw [← Option.some.inj e] at d
  exact nd _ _ d
end
theorem law_g {P : Program} {w : World} {K : PySem.W.Frag} {mg mb : Str → Option Value} {k : Nat} {fa a : Addr} {fd : FuncData} {x : Str} {sp : Sp} {s : Shared} {vs : List Value} {ns : List Int}
    (KX : K.In s.heap) (hns : s.heap.Ns mainGlobals mg) (hb : s.heap.Ns builtinsNs mb) (hbb : ∀ x : Str, x ≠ "__name__" → mb x = bootBuiltins x) (hlim : s.heap.NoLimit) (hg : s.gens = #[])
    (ha : s.heap.get? a = some { cls := .type "list", data := .seq vs.toArray }) (hi : IntsAre vs ns) (hl : ns.length ≤ sizeLine) (hr : Room k callerA)
    (F : ∀ base : Heap, K.In base → base.Ns mainGlobals mg → FnG P w K mg base k fa fd [x] sp) (hbind : ∀ (s : Shared) (u : Value), BindsTo s fd ⟨[u], []⟩ [(x, u)])
    (hsp : ∀ H : Hp, SqL K H a (ns.map V.int) → sp [.ref a] H (fun v _ => v = .bl true) E0) :
    codeAny (model P w) callerA (.call (.ref fa) ⟨[.ref a], []⟩) (fun r s' => r = .ok (.ret (.bool true)) ∧ OldK s.heap s'.heap ∧ s'.os = s.os ∧ AllBare s'.gens) s := by
  have rv : Vals (ns.map V.int) vs := vals_ints hi
  have nd : ∀ es ep, ({ cls := .type "list", data := .seq vs.toArray } : Obj).data ≠ .dict es ep := fun _ _ z => by
    have z' : Data.seq vs.toArray _ = Data.dict _ _ := z
    cases z'
  have lenN : (ns.map V.int).length ≤ sizeLine := by rw [List.length_map]; exact hl
  obtain ⟨H, hH⟩ : ∃ H, H = scrH K a { cls := .type "list", data := .seq vs.toArray } (ns.map V.int) := ⟨_, rfl⟩
  have N' : ∀ {b : Addr} {m : Str → Option Value}, s.heap.Ns b m → (hidT s.heap H).Ns b m := fun z => by rw [hH]; exact scr_ns ha nd z
  have kin : K.In (hidT s.heap H) := fun b q e => hidT_get (KX b q e) (by rw [hH]; exact scr_K e)
  have hok : HOk P w H s.heap := fun b u e => by
    rw [hH] at e
    obtain ⟨_, rfl, rfl⟩ := scr_hit e
    exact ⟨ha, lenN, vs, _, rv, ha⟩
  have sq : SqL K H a (ns.map V.int) := by
    cases q : K.lookup a with
    | none => exact .inl (.inr ⟨_, by rw [hH]; exact scr_here q⟩)
    | some ob =>
      have e := KX a ob q
      rw [ha] at e
      cases e
      exact .inr ⟨_, vs.toArray, _, q, rfl, rfl, rfl, by rw [List.size_toArray, hi.length]; exact hl, by simpa using rv⟩
  have M : Mod K mg (hidT s.heap H) := ⟨kin, N' hns, ⟨mb, N' hb, hbb⟩, by
    obtain ⟨mc, h1, h2⟩ := hlim
    exact ⟨mc, N' h1, h2⟩⟩
  have e0 : Env0 P w K mg (hidT s.heap H) callerA [] s H := { frames := rfl, mod := M, bs := fun b q e => of_hidT e, bsz := Nat.le_of_eq (hidT_size _ _), funs := trivial, frf := (fun b hb => nomatch hb), hok := hok, bare := .of_eq hg }
  refine codeAny_mono ((F _ kin (N' hns)).run callerA [] s H ⟨[.ref a], []⟩ [.ref a] [.ref a] _ _ hr rfl e0 (hbind s (.ref a)) (.cons rfl .nil) (hsp H sq)) fun r s' z => ?_
  match r, z with
  | .ok (.ret u), z =>
    obtain ⟨v, H', os, bare, un, ok', rv', q⟩ := z
    have q' : v = .bl true := q
    subst q'
    obtain rfl : u = Value.bool true := rv'
    refine ⟨rfl, OldK.of_keep fun b ob e => ?_, os, bare⟩
    cases q : H b with
    | none => exact un.keep b ob e q (fun z => nomatch z) (fun z => nomatch z)
    | some u =>
      have q2 := q
      rw [hH] at q2
      obtain ⟨_, rfl, rfl⟩ := scr_hit q2
      have h2 := ok' _ _ (un.frzs _ _ _ q)
      rw [ha] at e
      cases e
      exact h2.1
  | .ok .next, z => exact z.elim
  | .ok .brk, z => exact z.elim
  | .ok .cont, z => exact z.elim
  | .error e, z =>
    obtain ⟨_, _, _, _, _, _, _, _, _, _, _, _, zz⟩ := z
    exact zz.elim
/-- what a row asks behind its top -/
theorem walk_g {l : PySem.W.OpenLaw} {n k : Nat} {q : Program} {loose : List Str} {XP : (Str → Option Value) → Heap → Prop} {YP : World → Heap → Prop} {d : DefRec} {x : Str}
    (hn : l.most = some n) (hn2 : n ≤ sizeLine) (hdf : d.params.defaults = []) (hr : Room k callerA)
    (F : ∀ (w : World) (mg : Str → Option Value) (fa : Addr) (h : Heap), YP w h → h.Ns mainGlobals mg → mg d.name = some (.ref fa) →
      ∃ (K : PySem.W.Frag) (fd : FuncData) (sp : Sp), K.In h ∧ (∀ (s : Shared) (u : Value), BindsTo s fd ⟨[u], []⟩ [(x, u)]) ∧
        (∀ (H : Hp) (a : Addr) (ns : List Int), ns.length ≤ n → (∀ z ∈ ns, Builtin.Int.intBits z ≤ 1048576) → SqL K H a (ns.map V.int) → sp [.ref a] H (fun v _ => v = .bl true) E0) ∧
        ∀ base : Heap, K.In base → base.Ns mainGlobals mg → FnG l.prog w K mg base k fa fd [x] sp) :
    PySem.W.WalkO q loose XP YP l.row.toRowW d [] (fun f vs => PySem.call f vs) := by
  refine Att.attach_callB hn hdf fun w s₀ s mg mb fa o pm cd doc a vs ns G Y ho hd hcd hmg hobj hints hlen hbits hg => ?_
  obtain ⟨K, fd, sp, KX, hb, hsp, hF⟩ := F w mg fa _ Y G.T.g hmg
  exact law_g KX G.T.g G.T.b G.T.builtins G.T.nolimit hg hobj hints (Nat.le_trans hlen hn2) hr hF hb fun H hS => hsp H a ns hlen hbits hS
/-- a def by its name -/
theorem cal_mk {P : Program} {w : World} {K : PySem.W.Frag} {mg : Str → Option Value} {base : Heap} {k : Nat} {x : Str} {f : Addr} {fd : FuncData} {ps : List Str} {dvs : List V} {sp : Sp} (F : FnG P w K mg base k f fd ps sp) (hm : mg x = some (.ref f)) (hk : PySem.W.keepIn K (.ref f) = true)
    {ds : List Value} (hb : Binds K fd ps ds) (hd : Vals dvs ds) : Cal P w K mg base k x ps dvs sp := ⟨f, fd, ds, F, hm, hk, hb, hd⟩
theorem bits_log {z : Int} {n : Nat} (h : Builtin.Int.intBits z ≤ n) : z.natAbs.log2 ≤ n := by
  unfold Builtin.Int.intBits at h
  split at h
  · rename_i e
    have : z = 0 := by simpa using e
    subst this
    simp
  · omega
end Uv

set_option Elab.async false
set_option linter.all false
set_option maxRecDepth 100000
set_option maxHeartbeats 4000000
namespace Lw
open PySem PySem.Spec L2 Uv
open PyProof.Rows hiding St
def top (i : Nat) : Stmt := PySem.Challenge.pw_ellwarden_k01_ratios.main.body.getD i (.Pass ⟨0, 0, 0, 0⟩)
abbrev s_BadRatio_init : Stmt := inClass (top 3) 0
abbrev N_BadRatio_init : List Str := ["self", "text"]
abbrev P_BadRatio_init : List Str := ["self", "text"]
abbrev s_Nought_init : Stmt := inClass (top 4) 0
abbrev N_Nought_init : List Str := ["self", "number"]
abbrev P_Nought_init : List Str := ["self", "number"]
abbrev s_is_integer : Stmt := top 8
abbrev N_is_integer : List Str := ["thing", "low", "high"]
abbrev P_is_integer : List Str := ["thing", "low", "high"]
theorem sc_is_integer : FnScope N_is_integer P_is_integer (defScope s_is_integer) := ⟨rfl, rfl, rfl, by decide +kernel, rfl, by decide +kernel, by decide +kernel⟩
abbrev s_ratio : Stmt := top 9
abbrev N_ratio : List Str := ["n", "d", "common"]
abbrev P_ratio : List Str := ["n", "d"]
theorem sc_ratio : FnScope N_ratio P_ratio (defScope s_ratio) := ⟨rfl, rfl, rfl, by decide +kernel, rfl, by decide +kernel, by decide +kernel⟩
abbrev s_is_ratio : Stmt := top 10
abbrev N_is_ratio : List Str := ["thing", "n", "d"]
abbrev P_is_ratio : List Str := ["thing"]
theorem sc_is_ratio : FnScope N_is_ratio P_is_ratio (defScope s_is_ratio) := ⟨rfl, rfl, rfl, by decide +kernel, rfl, by decide +kernel, by decide +kernel⟩
abbrev s_plus : Stmt := top 11
abbrev N_plus : List Str := ["a", "b"]
abbrev P_plus : List Str := ["a", "b"]
theorem sc_plus : FnScope N_plus P_plus (defScope s_plus) := ⟨rfl, rfl, rfl, by decide +kernel, rfl, by decide +kernel, by decide +kernel⟩
abbrev s_minus : Stmt := top 12
abbrev N_minus : List Str := ["a", "b"]
abbrev P_minus : List Str := ["a", "b"]
theorem sc_minus : FnScope N_minus P_minus (defScope s_minus) := ⟨rfl, rfl, rfl, by decide +kernel, rfl, by decide +kernel, by decide +kernel⟩
abbrev s_times : Stmt := top 13
abbrev N_times : List Str := ["a", "b"]
abbrev P_times : List Str := ["a", "b"]
theorem sc_times : FnScope N_times P_times (defScope s_times) := ⟨rfl, rfl, rfl, by decide +kernel, rfl, by decide +kernel, by decide +kernel⟩
abbrev s_over : Stmt := top 14
abbrev N_over : List Str := ["a", "b"]
abbrev P_over : List Str := ["a", "b"]
theorem sc_over : FnScope N_over P_over (defScope s_over) := ⟨rfl, rfl, rfl, by decide +kernel, rfl, by decide +kernel, by decide +kernel⟩
abbrev s_compare : Stmt := top 15
abbrev N_compare : List Str := ["a", "b", "left", "right"]
abbrev P_compare : List Str := ["a", "b"]
theorem sc_compare : FnScope N_compare P_compare (defScope s_compare) := ⟨rfl, rfl, rfl, by decide +kernel, rfl, by decide +kernel, by decide +kernel⟩
abbrev s_write_ratio : Stmt := top 16
abbrev N_write_ratio : List Str := ["a"]
abbrev P_write_ratio : List Str := ["a"]
theorem sc_write_ratio : FnScope N_write_ratio P_write_ratio (defScope s_write_ratio) := ⟨rfl, rfl, rfl, by decide +kernel, rfl, by decide +kernel, by decide +kernel⟩
abbrev s_is_number_text : Stmt := top 17
abbrev N_is_number_text : List Str := ["text", "sign"]
abbrev P_is_number_text : List Str := ["text"]
theorem sc_is_number_text : FnScope N_is_number_text P_is_number_text (defScope s_is_number_text) := ⟨rfl, rfl, rfl, by decide +kernel, rfl, by decide +kernel, by decide +kernel⟩
abbrev s_read_ratio : Stmt := top 18
abbrev N_read_ratio : List Str := ["text", "sign", "rest", "above", "stroke", "below", "told"]
abbrev P_read_ratio : List Str := ["text"]
theorem sc_read_ratio : FnScope N_read_ratio P_read_ratio (defScope s_read_ratio) := ⟨rfl, rfl, rfl, by decide +kernel, rfl, by decide +kernel, by decide +kernel⟩
abbrev s_l_bag_of : Stmt := top 20
abbrev N_l_bag_of : List Str := ["_law_script", "_law_mixed", "_law_cell"]
abbrev P_l_bag_of : List Str := ["_law_script"]
theorem sc_l_bag_of : FnScope N_l_bag_of P_l_bag_of (defScope s_l_bag_of) := ⟨rfl, rfl, rfl, by decide +kernel, rfl, by decide +kernel, by decide +kernel⟩
abbrev s_l_pick : Stmt := top 21
abbrev N_l_pick : List Str := ["_law_bag", "_law_many", "_law_number", "_law_cell"]
abbrev P_l_pick : List Str := ["_law_bag", "_law_many"]
theorem sc_l_pick : FnScope N_l_pick P_l_pick (defScope s_l_pick) := ⟨rfl, rfl, rfl, by decide +kernel, rfl, by decide +kernel, by decide +kernel⟩
abbrev s_l_choice : Stmt := top 22
abbrev N_l_choice : List Str := ["_law_bag", "_law_things"]
abbrev P_l_choice : List Str := ["_law_bag", "_law_things"]
theorem sc_l_choice : FnScope N_l_choice P_l_choice (defScope s_l_choice) := ⟨rfl, rfl, rfl, by decide +kernel, rfl, by decide +kernel, by decide +kernel⟩
abbrev s_l_one_in : Stmt := top 23
abbrev N_l_one_in : List Str := ["_law_bag", "_law_many"]
abbrev P_l_one_in : List Str := ["_law_bag", "_law_many"]
theorem sc_l_one_in : FnScope N_l_one_in P_l_one_in (defScope s_l_one_in) := ⟨rfl, rfl, rfl, by decide +kernel, rfl, by decide +kernel, by decide +kernel⟩
abbrev s_l_integer : Stmt := top 24
abbrev N_l_integer : List Str := ["_law_thing"]
abbrev P_l_integer : List Str := ["_law_thing"]
theorem sc_l_integer : FnScope N_l_integer P_l_integer (defScope s_l_integer) := ⟨rfl, rfl, rfl, by decide +kernel, rfl, by decide +kernel, by decide +kernel⟩
abbrev s_l_gcd : Stmt := top 25
abbrev N_l_gcd : List Str := ["_law_a", "_law_b", "_law_first", "_law_second", "_law_rest"]
abbrev P_l_gcd : List Str := ["_law_a", "_law_b"]
theorem sc_l_gcd : FnScope N_l_gcd P_l_gcd (defScope s_l_gcd) := ⟨rfl, rfl, rfl, by decide +kernel, rfl, by decide +kernel, by decide +kernel⟩
abbrev s_l_ratio : Stmt := top 26
abbrev N_l_ratio : List Str := ["_law_n", "_law_d", "_law_common"]
abbrev P_l_ratio : List Str := ["_law_n", "_law_d"]
theorem sc_l_ratio : FnScope N_l_ratio P_l_ratio (defScope s_l_ratio) := ⟨rfl, rfl, rfl, by decide +kernel, rfl, by decide +kernel, by decide +kernel⟩
abbrev s_l_plus : Stmt := top 27
abbrev N_l_plus : List Str := ["_law_a", "_law_b"]
abbrev P_l_plus : List Str := ["_law_a", "_law_b"]
theorem sc_l_plus : FnScope N_l_plus P_l_plus (defScope s_l_plus) := ⟨rfl, rfl, rfl, by decide +kernel, rfl, by decide +kernel, by decide +kernel⟩
abbrev s_l_minus : Stmt := top 28
abbrev N_l_minus : List Str := ["_law_a", "_law_b"]
abbrev P_l_minus : List Str := ["_law_a", "_law_b"]
theorem sc_l_minus : FnScope N_l_minus P_l_minus (defScope s_l_minus) := ⟨rfl, rfl, rfl, by decide +kernel, rfl, by decide +kernel, by decide +kernel⟩
abbrev s_l_times : Stmt := top 29
abbrev N_l_times : List Str := ["_law_a", "_law_b"]
abbrev P_l_times : List Str := ["_law_a", "_law_b"]
theorem sc_l_times : FnScope N_l_times P_l_times (defScope s_l_times) := ⟨rfl, rfl, rfl, by decide +kernel, rfl, by decide +kernel, by decide +kernel⟩
abbrev s_l_over : Stmt := top 30
abbrev N_l_over : List Str := ["_law_a", "_law_b"]
abbrev P_l_over : List Str := ["_law_a", "_law_b"]
theorem sc_l_over : FnScope N_l_over P_l_over (defScope s_l_over) := ⟨rfl, rfl, rfl, by decide +kernel, rfl, by decide +kernel, by decide +kernel⟩
abbrev s_l_number_of : Stmt := top 31
abbrev N_l_number_of : List Str := ["_law_bag", "_law_way", "_law_number"]
abbrev P_l_number_of : List Str := ["_law_bag"]
theorem sc_l_number_of : FnScope N_l_number_of P_l_number_of (defScope s_l_number_of) := ⟨rfl, rfl, rfl, by decide +kernel, rfl, by decide +kernel, by decide +kernel⟩
abbrev s_l_second_of : Stmt := top 32
abbrev N_l_second_of : List Str := ["_law_bag", "_law_first", "_law_way", "_law_beside"]
abbrev P_l_second_of : List Str := ["_law_bag", "_law_first"]
theorem sc_l_second_of : FnScope N_l_second_of P_l_second_of (defScope s_l_second_of) := ⟨rfl, rfl, rfl, by decide +kernel, rfl, by decide +kernel, by decide +kernel⟩
abbrev s_l_same : Stmt := top 33
abbrev N_l_same : List Str := ["_law_told", "_law_due"]
abbrev P_l_same : List Str := ["_law_told", "_law_due"]
theorem sc_l_same : FnScope N_l_same P_l_same (defScope s_l_same) := ⟨rfl, rfl, rfl, by decide +kernel, rfl, by decide +kernel, by decide +kernel⟩
abbrev s_l_ratio_told : Stmt := top 34
abbrev N_l_ratio_told : List Str := ["_law_n", "_law_d", "e"]
abbrev P_l_ratio_told : List Str := ["_law_n", "_law_d"]
theorem sc_l_ratio_told : FnScope N_l_ratio_told P_l_ratio_told (defScope s_l_ratio_told) := ⟨rfl, rfl, rfl, by decide +kernel, rfl, by decide +kernel, by decide +kernel⟩
abbrev s_l_over_told : Stmt := top 35
abbrev N_l_over_told : List Str := ["_law_a", "_law_b", "e"]
abbrev P_l_over_told : List Str := ["_law_a", "_law_b"]
theorem sc_l_over_told : FnScope N_l_over_told P_l_over_told (defScope s_l_over_told) := ⟨rfl, rfl, rfl, by decide +kernel, rfl, by decide +kernel, by decide +kernel⟩
abbrev s_l_read_told : Stmt := top 36
abbrev N_l_read_told : List Str := ["_law_thing", "e"]
abbrev P_l_read_told : List Str := ["_law_thing"]
theorem sc_l_read_told : FnScope N_l_read_told P_l_read_told (defScope s_l_read_told) := ⟨rfl, rfl, rfl, by decide +kernel, rfl, by decide +kernel, by decide +kernel⟩
abbrev s_l_right_making : Stmt := top 37
abbrev N_l_right_making : List Str := ["_law_n", "_law_d", "_law_told"]
abbrev P_l_right_making : List Str := ["_law_n", "_law_d"]
theorem sc_l_right_making : FnScope N_l_right_making P_l_right_making (defScope s_l_right_making) := ⟨rfl, rfl, rfl, by decide +kernel, rfl, by decide +kernel, by decide +kernel⟩
abbrev s_l_right_reckoning : Stmt := top 38
abbrev N_l_right_reckoning : List Str := ["_law_a", "_law_b", "_law_cross", "_law_sign", "_law_told"]
abbrev P_l_right_reckoning : List Str := ["_law_a", "_law_b"]
theorem sc_l_right_reckoning : FnScope N_l_right_reckoning P_l_right_reckoning (defScope s_l_right_reckoning) := ⟨rfl, rfl, rfl, by decide +kernel, rfl, by decide +kernel, by decide +kernel⟩
abbrev s_l_text_of : Stmt := top 39
abbrev N_l_text_of : List Str := ["_law_a"]
abbrev P_l_text_of : List Str := ["_law_a"]
theorem sc_l_text_of : FnScope N_l_text_of P_l_text_of (defScope s_l_text_of) := ⟨rfl, rfl, rfl, by decide +kernel, rfl, by decide +kernel, by decide +kernel⟩
abbrev s_l_figures : Stmt := top 40
abbrev N_l_figures : List Str := ["_law_text", "_law_sign"]
abbrev P_l_figures : List Str := ["_law_text"]
theorem sc_l_figures : FnScope N_l_figures P_l_figures (defScope s_l_figures) := ⟨rfl, rfl, rfl, by decide +kernel, rfl, by decide +kernel, by decide +kernel⟩
abbrev s_l_value_of : Stmt := top 41
abbrev N_l_value_of : List Str := ["_law_text", "_law_below", "_law_parts", "_law_n", "_law_d"]
abbrev P_l_value_of : List Str := ["_law_text"]
theorem sc_l_value_of : FnScope N_l_value_of P_l_value_of (defScope s_l_value_of) := ⟨rfl, rfl, rfl, by decide +kernel, rfl, by decide +kernel, by decide +kernel⟩
abbrev s_l_right_reading : Stmt := top 42
abbrev N_l_right_reading : List Str := ["_law_text", "_law_due", "_law_told"]
abbrev P_l_right_reading : List Str := ["_law_text"]
theorem sc_l_right_reading : FnScope N_l_right_reading P_l_right_reading (defScope s_l_right_reading) := ⟨rfl, rfl, rfl, by decide +kernel, rfl, by decide +kernel, by decide +kernel⟩
abbrev s_l_spoilt : Stmt := top 43
abbrev N_l_spoilt : List Str := ["_law_bag", "_law_text", "_law_turn", "_law_at", "_law_sign", "_law_way"]
abbrev P_l_spoilt : List Str := ["_law_bag", "_law_text"]
theorem sc_l_spoilt : FnScope N_l_spoilt P_l_spoilt (defScope s_l_spoilt) := ⟨rfl, rfl, rfl, by decide +kernel, rfl, by decide +kernel, by decide +kernel⟩
abbrev s_l_odd_texts : Stmt := top 44
abbrev N_l_odd_texts : List Str := ["_law_bag", "_law_texts", "_law_long", "_law_other"]
abbrev P_l_odd_texts : List Str := ["_law_bag"]
theorem sc_l_odd_texts : FnScope N_l_odd_texts P_l_odd_texts (defScope s_l_odd_texts) := ⟨rfl, rfl, rfl, by decide +kernel, rfl, by decide +kernel, by decide +kernel⟩
abbrev s_l_odd_things : Stmt := top 45
abbrev N_l_odd_things : List Str := []
abbrev P_l_odd_things : List Str := []
theorem sc_l_odd_things : FnScope N_l_odd_things P_l_odd_things (defScope s_l_odd_things) := ⟨rfl, rfl, rfl, by decide +kernel, rfl, by decide +kernel, by decide +kernel⟩
abbrev s_l_right_texts : Stmt := top 46
abbrev N_l_right_texts : List Str := ["_law_bag", "_law_a", "_law_text", "_law_told", "_law_one", "_law_thing"]
abbrev P_l_right_texts : List Str := ["_law_bag", "_law_a"]
theorem sc_l_right_texts : FnScope N_l_right_texts P_l_right_texts (defScope s_l_right_texts) := ⟨rfl, rfl, rfl, by decide +kernel, rfl, by decide +kernel, by decide +kernel⟩
abbrev s_l_right_kinds : Stmt := top 47
abbrev N_l_right_kinds : List Str := ["_law_n", "_law_d", "_law_first", "_law_second", "_law_told", "_law_thing", "_law_odd"]
abbrev P_l_right_kinds : List Str := ["_law_n", "_law_d", "_law_first", "_law_second"]
theorem sc_l_right_kinds : FnScope N_l_right_kinds P_l_right_kinds (defScope s_l_right_kinds) := ⟨rfl, rfl, rfl, by decide +kernel, rfl, by decide +kernel, by decide +kernel⟩
abbrev s_law : Stmt := top 48
abbrev N_law : List Str := ["_law_script", "_law_bag", "_law_n", "_law_d", "_law_factor", "_law_first", "_law_second"]
abbrev P_law : List Str := ["_law_script"]
theorem sc_law : FnScope N_law P_law (defScope s_law) := ⟨rfl, rfl, rfl, by decide +kernel, rfl, by decide +kernel, by decide +kernel⟩

structure Tp (P : Program) (K : PySem.W.Frag) (mg : Str → Option Value) (cE cB cN : Addr) : Prop extends Bi mg where
  x_BadRatio : Xc.Txt P K mg "BadRatio" ["text"] cB
  x_Nought : Xc.Txt P K mg "Nought" ["number"] cN
  g_BadRatio : mg "BadRatio" = some (.ref cB)
  g_Nought : mg "Nought" = some (.ref cN)
  g_EllError : mg "EllError" = some (.ref cE)
  g_gcd : mg "gcd" = some (.builtin "math.gcd")
  g_FIGURES : ∃ t, mg "FIGURES" = some (.str "0123456789" t)
  g_MOST_FIGURES : ∃ t, mg "MOST_FIGURES" = some (.int 400 t)
  mBB : PySem.W.exmOne K (.ref cB) (.ref cB) = some true
  mNN : PySem.W.exmOne K (.ref cN) (.ref cN) = some true
  oBV : PySem.W.kitOne K (.ref cB) (.type "ValueError") = some true
  oNV : PySem.W.kitOne K (.ref cN) (.type "ValueError") = some true
  oBE : PySem.W.kitOne K (.ref cB) (.ref cE) = some true
  oNE : PySem.W.kitOne K (.ref cN) (.ref cE) = some true
  oBN : PySem.W.kitOne K (.ref cB) (.ref cN) = some false
  oNB : PySem.W.kitOne K (.ref cN) (.ref cB) = some false
  eB : ExcC K cB
  eN : ExcC K cN
  xf_BadRatio : XfC K cB
  xf_Nought : XfC K cN
  xn_BadRatio_text : PySem.W.findIn K (.ref cB) "text" = some none
  xn_Nought_number : PySem.W.findIn K (.ref cN) "number" = some none
/-! ### ratios -/
abbrev big : Nat := 10 ^ 400
theorem big_lt : big < 2 ^ 1400 := by decide +kernel
def gN (n d : Int) : Int := if 0 < d then Int.gcd n d else -(Int.gcd n d : Int)
def rN (n d : Int) : Int := n.fdiv (gN n d)
def rD (n d : Int) : Int := d.fdiv (gN n d)
abbrev Rt (K : PySem.W.Frag) (H : Hp) (v : V) (n d : Int) : Prop := ∃ p, v = .ref p ∧ SqT K H p [.int n, .int d]
structure Low (n d : Int) : Prop where
  pos : 0 < d
  one : Int.gcd n d = 1
  bn : n.natAbs ≤ big
  bd : d.natAbs ≤ big
/-- fits -/
abbrev Md (i : Int) : Prop := i.natAbs < 2 ^ 4000
/-! texts -/
def digs (z : Str) : Bool := z.cps.toList.all fun c => ("0123456789" : Str).cps.toList.contains c
def fig (z : Str) : Bool := decide (1 ≤ z.length) && decide (z.length ≤ 400) && digs z && (decide (z = "0") || !decide (z.cps[0]? = some 48))
def ival (z : Str) : Int := (PySem.intText? z).getD 0
def readG (s : Int) (rest : Str) : Option (Int × Int) :=
  let p := Txt.partition rest "/"
  if (!fig p.1 || (decide (s < 0) && decide (p.1 = "0"))) = true then none
  else if p.2.1 = "" then some (s * ival p.1, 1)
  else if (!fig p.2.2 || (decide (p.2.2 = "0") || decide (p.2.2 = "1"))) = true then none
  else if Int.gcd (s * ival p.1) (ival p.2.2) = 1 then some (s * ival p.1, ival p.2.2) else none
def readV (z : Str) : Option (Int × Int) := if Txt.startswith z "-" = true then readG (-1) (cutS z (some 1) none) else readG 1 z
/-- what is no text -/
def Thing (K : PySem.W.Frag) (H : Hp) (v : V) : Prop := (∃ d, Dp K H v d ∧ isStrD d = false) ∨ ∃ a, v = .ref a ∧ H a = some (.dK [])
def isRatD (d : PyData) : Bool := match d with
  | .tuple [.int n, .int e] => decide (1 ≤ e) && decide (Int.gcd n e = 1)
  | _ => false
def isIntegerD (d : PyData) (lo : Option Int) : Bool := match d with
  | .int i => match lo with
    | some l => decide (l ≤ i)
    | none => true
  | _ => false
/-! ### promises -/
def spChoice (K : PySem.W.Frag) : Sp := fun vs H Q E => ∃ b, BagAt H b ∧ ((∃ p xs, vs = [.ref b, .ref p] ∧ SqL K H p xs ∧ 0 < xs.length ∧ xs.length ≤ 1000 ∧ ∀ v H', v ∈ xs → Kb b H H' → Q v H') ∨
  ∃ z : Str, vs = [.ref b, .str z] ∧ 0 < z.length ∧ z.length ≤ 1000 ∧ ∀ c H', Kb b H H' → Q (.str ⟨#[c]⟩) H')
def spOne : Sp := fun vs H Q E => ∃ (b : Addr) (m : Int), vs = [.ref b, .int m] ∧ BagAt H b ∧ 0 < m ∧ m.natAbs.log2 < 9000 ∧ ∀ (r : Bool) H', Kb b H H' → Q (.bl r) H'
def spBagOf (K : PySem.W.Frag) : Sp := fun vs H Q E => ∃ p ns, vs = [.ref p] ∧ SqL K H p (List.map V.int ns) ∧ ns.length ≤ 63 ∧ (∀ i ∈ ns, i.natAbs.log2 ≤ 1048576) ∧ ∀ b H', Ex H H' → BagAt H' b → Q (.ref b) H'
def spInteger (K : PySem.W.Frag) : Sp := fun vs H Q E => ∃ i, vs = [.int i] ∧ Q (.bl true) H
def spGcd : Sp := fun vs H Q E => ∃ n d, vs = [.int n, .int d] ∧ Q (.int (Int.gcd n d : Int)) H
def spLRatio : Sp := fun vs H Q E => ∃ n d, vs = [.int n, .int d] ∧ Md n ∧ Md d ∧ d ≠ 0 ∧ ∀ p H', Ex H H' → H' p = some (.tup [.int (rN n d), .int (rD n d)]) → Q (.ref p) H'
def spTwo (K : PySem.W.Frag) (n d : Int → Int → Int → Int → Int) (C : Int → Int → Int → Int → Prop) : Sp := fun vs H Q E => ∃ v w n1 d1 n2 d2, vs = [v, w] ∧ Rt K H v n1 d1 ∧ Rt K H w n2 d2 ∧ Low n1 d1 ∧ Low n2 d2 ∧ C n1 d1 n2 d2 ∧ ∀ p H', Ex H H' → H' p = some (.tup [.int (rN (n n1 d1 n2 d2) (d n1 d1 n2 d2)), .int (rD (n n1 d1 n2 d2) (d n1 d1 n2 d2))]) → Q (.ref p) H'
def spPlus (K : PySem.W.Frag) : Sp := spTwo K (fun n1 d1 n2 d2 => n1 * d2 + n2 * d1) (fun _ d1 _ d2 => d1 * d2) (fun _ _ _ _ => True)
def spMinus (K : PySem.W.Frag) : Sp := spTwo K (fun n1 d1 n2 d2 => n1 * d2 - n2 * d1) (fun _ d1 _ d2 => d1 * d2) (fun _ _ _ _ => True)
def spTimes (K : PySem.W.Frag) : Sp := spTwo K (fun n1 _ n2 _ => n1 * n2) (fun _ d1 _ d2 => d1 * d2) (fun _ _ _ _ => True)
def spLOver (K : PySem.W.Frag) : Sp := spTwo K (fun n1 _ _ d2 => n1 * d2) (fun _ d1 n2 _ => d1 * n2) (fun _ _ n2 _ => n2 ≠ 0)
def spNumberOf : Sp := fun vs H Q E => ∃ b, vs = [.ref b] ∧ BagAt H b ∧ ∀ (i : Int) H', i.natAbs ≤ big → Kb b H H' → Q (.int i) H'
def spSecondOf (K : PySem.W.Frag) : Sp := fun vs H Q E => ∃ b v n d, vs = [.ref b, v] ∧ BagAt H b ∧ Rt K H v n d ∧ Low n d ∧ ∀ w n' d' H', Rt K H' w n' d' → Low n' d' → Kb b H H' → Q w H'
def spSame (K : PySem.W.Frag) : Sp := fun vs H Q E => ∃ v w n d, vs = [v, w] ∧ Rt K H v n d ∧ Rt K H w n d ∧ Q (.bl true) H
/-- ('is', a ratio) or ('nought', x) -/
def spRatioTold : Sp := fun vs H Q E => ∃ n d, vs = [.int n, .int d] ∧ Md n ∧ Md d ∧ (d ≠ 0 → ∀ q p H', Ex H H' → H' p = some (.tup [.int (rN n d), .int (rD n d)]) → H' q = some (.tup [.str "is", .ref p]) → Q (.ref q) H') ∧
  (d = 0 → ∀ q H', Ex H H' → H' q = some (.tup [.str "nought", .int n]) → Q (.ref q) H')
def spOverTold (K : PySem.W.Frag) : Sp := fun vs H Q E => ∃ v w n1 d1 n2 d2, vs = [v, w] ∧ Rt K H v n1 d1 ∧ Rt K H w n2 d2 ∧ Low n1 d1 ∧ Low n2 d2 ∧ (n2 ≠ 0 → ∀ q p H', Ex H H' → H' p = some (.tup [.int (rN (n1 * d2) (d1 * n2)), .int (rD (n1 * d2) (d1 * n2))]) → H' q = some (.tup [.str "is", .ref p]) → Q (.ref q) H') ∧
  (n2 = 0 → ∀ q H', Ex H H' → H' q = some (.tup [.str "nought", v]) → Q (.ref q) H')
def spReadTold (K : PySem.W.Frag) : Sp := fun vs H Q E => ∃ v, vs = [v] ∧ ((∃ z : Str, v = .str z ∧ z.length ≤ 10000 ∧ (∀ n d, readV z = some (n, d) → ∀ q p H', Ex H H' → H' p = some (.tup [.int n, .int d]) → H' q = some (.tup [.str "is", .ref p]) → Q (.ref q) H') ∧
    (readV z = none → ∀ q H', Ex H H' → H' q = some (.tup [.str "bad", v]) → Q (.ref q) H')) ∨ Thing K H v ∧ ∀ q H', Ex H H' → H' q = some (.tup [.str "bad", v]) → Q (.ref q) H')
def spRightMaking : Sp := fun vs H Q E => ∃ n d, vs = [.int n, .int d] ∧ Md n ∧ Md d ∧ ∀ H', Ex H H' → Q (.bl true) H'
def spRightReckoning (K : PySem.W.Frag) : Sp := fun vs H Q E => ∃ v w n1 d1 n2 d2, vs = [v, w] ∧ Rt K H v n1 d1 ∧ Rt K H w n2 d2 ∧ Low n1 d1 ∧ Low n2 d2 ∧ ∀ H', Ex H H' → Q (.bl true) H'
def textOf (n d : Int) : Str := if d = 1 then toString n else toString n ++ "/" ++ toString d
def spTextOf (K : PySem.W.Frag) : Sp := fun vs H Q E => ∃ v n d, vs = [v] ∧ Rt K H v n d ∧ Low n d ∧ ((textOf n d).length ≤ 1500 → Q (.str (textOf n d)) H)
def spFig : Sp := fun vs H Q E => ∃ z : Str, vs = [.str z] ∧ z.length ≤ 10000 ∧ Q (.bl (fig z)) H
def spValueOf : Sp := fun vs H Q E => ∃ z : Str, vs = [.str z] ∧ z.length ≤ 10000 ∧ (readV z = none → ∀ H', Ex H H' → Q .non H') ∧ (∀ n d, readV z = some (n, d) → ∀ p H', Ex H H' → H' p = some (.tup [.int n, .int d]) → Q (.ref p) H')
def spRightReading : Sp := fun vs H Q E => ∃ z : Str, vs = [.str z] ∧ z.length ≤ 10000 ∧ ∀ H', Ex H H' → Q (.bl true) H'
def spSpoilt : Sp := fun vs H Q E => ∃ (b : Addr) (z : Str), vs = [.ref b, .str z] ∧ BagAt H b ∧ z.length ≤ 1500 ∧ ∀ (x : Str) H', x.length ≤ 10000 → Kb b H H' → Q (.str x) H'
def spOddTexts : Sp := fun vs H Q E => ∃ b, vs = [.ref b] ∧ BagAt H b ∧ ∀ (p : Addr) (zs : List Str) H', (∀ z ∈ zs, z.length ≤ 2000) → zs.length ≤ 100 → Kb b H H' → H' p = some (.lst (zs.map V.str)) → Q (.ref p) H'
def spOddThings (K : PySem.W.Frag) : Sp := fun vs H Q E => vs = [] ∧ ∀ p xs H', Ex H H' → H' p = some (.lst xs) → (∀ x ∈ xs, Thing K H' x ∧ ∃ r, ReprV K H' x r) → Q (.ref p) H'
def spRightTexts (K : PySem.W.Frag) : Sp := fun vs H Q E => ∃ b v n d, vs = [.ref b, v] ∧ BagAt H b ∧ Rt K H v n d ∧ Low n d ∧ ∀ H', Kb b H H' → Q (.bl true) H'
def spRightKinds (K : PySem.W.Frag) : Sp := fun vs H Q E => ∃ n d v w n1 d1 n2 d2, vs = [.int n, .int d, v, w] ∧ Rt K H v n1 d1 ∧ Rt K H w n2 d2 ∧ Low n1 d1 ∧ Low n2 d2 ∧ ∀ H', Ex H H' → Q (.bl true) H'
def spLaw (K : PySem.W.Frag) : Sp := fun vs H Q E => ∃ p ns, vs = [.ref p] ∧ SqL K H p (List.map V.int ns) ∧ ns.length ≤ 63 ∧ (∀ i ∈ ns, i.natAbs.log2 ≤ 1048576) ∧ ∀ H', Q (.bl true) H'
/-! the program's own -/
def spIsInteger (K : PySem.W.Frag) : Sp := fun vs H Q E => ∃ v d lo l, vs = [v, lo, .non] ∧ Dp K H v d ∧ (lo = .non ∧ l = none ∨ ∃ i, lo = .int i ∧ l = some i) ∧ Q (.bl (isIntegerD d l)) H
def spRatio (cN : Addr) : Sp := fun vs H Q E => ∃ n d, vs = [.int n, .int d] ∧ Md n ∧ Md d ∧ (d ≠ 0 → ∀ p H', Ex H H' → H' p = some (.tup [.int (rN n d), .int (rD n d)]) → Q (.ref p) H') ∧
  (d = 0 → ∀ e H', Ex H H' → H' e = some (.xd [("number", .int n)]) → E (.ref cN) (some e) H')
def spIsRatio (K : PySem.W.Frag) : Sp := fun vs H Q E => ∃ v d, vs = [v] ∧ Dp K H v d ∧ Q (.bl (isRatD d)) H
def spOver (K : PySem.W.Frag) (cN : Addr) : Sp := fun vs H Q E => ∃ v w n1 d1 n2 d2, vs = [v, w] ∧ Rt K H v n1 d1 ∧ Rt K H w n2 d2 ∧ Low n1 d1 ∧ Low n2 d2 ∧ (n2 ≠ 0 → ∀ p H', Ex H H' → H' p = some (.tup [.int (rN (n1 * d2) (d1 * n2)), .int (rD (n1 * d2) (d1 * n2))]) → Q (.ref p) H') ∧
  (n2 = 0 → ∀ e H', Ex H H' → H' e = some (.xd [("number", v)]) → E (.ref cN) (some e) H')
def spCompare (K : PySem.W.Frag) : Sp := fun vs H Q E => ∃ v w n1 d1 n2 d2, vs = [v, w] ∧ Rt K H v n1 d1 ∧ Rt K H w n2 d2 ∧ Low n1 d1 ∧ Low n2 d2 ∧ Q (.int (if n1 * d2 < n2 * d1 then -1 else if n1 * d2 > n2 * d1 then 1 else 0)) H
def spRead (K : PySem.W.Frag) (cB : Addr) : Sp := fun vs H Q E => ∃ v, vs = [v] ∧ ((∃ z : Str, v = .str z ∧ z.length ≤ 10000 ∧ (∀ n d, readV z = some (n, d) → ∀ p H', Ex H H' → H' p = some (.tup [.int n, .int d]) → Q (.ref p) H') ∧
    (readV z = none → ∀ e H', Ex H H' → H' e = some (.xd [("text", v)]) → E (.ref cB) (some e) H')) ∨ Thing K H v ∧ ∀ e H', Ex H H' → H' e = some (.xd [("text", v)]) → E (.ref cB) (some e) H')

/-! sizes -/
theorem bound_mul {a b : Int} (ha : a.natAbs ≤ big) (hb : b.natAbs ≤ big) : (a * b).natAbs ≤ big * big := by
  rw [Int.natAbs_mul]
  exact Nat.mul_le_mul ha hb
theorem big_sq : big * big + big * big < 2 ^ 4000 := by decide +kernel
theorem md_mul {a b : Int} (ha : a.natAbs ≤ big) (hb : b.natAbs ≤ big) : Md (a * b) := by
  have h1 := bound_mul ha hb
  have h2 := big_sq
  exact Nat.lt_of_le_of_lt h1 (Nat.lt_of_le_of_lt (Nat.le_add_right _ _) h2)
theorem md_add {a b c d : Int} (ha : a.natAbs ≤ big) (hb : b.natAbs ≤ big) (hc : c.natAbs ≤ big) (hd : d.natAbs ≤ big) : Md (a * b + c * d) :=
  Nat.lt_of_le_of_lt (Nat.le_trans (Int.natAbs_add_le _ _) (Nat.add_le_add (bound_mul ha hb) (bound_mul hc hd))) big_sq
theorem md_sub {a b c d : Int} (ha : a.natAbs ≤ big) (hb : b.natAbs ≤ big) (hc : c.natAbs ≤ big) (hd : d.natAbs ≤ big) : Md (a * b - c * d) := by
  have : a * b - c * d = a * b + (-c) * d := by rw [Int.neg_mul]; omega
  rw [this]
  exact md_add ha hb (by simpa using hc) hd
theorem md_one {a : Int} (ha : a.natAbs ≤ big) : Md a := by
  have h := big_sq
  exact Nat.lt_of_le_of_lt ha (Nat.lt_of_le_of_lt (Nat.le_trans (Nat.le_mul_of_pos_right big (by decide +kernel)) (Nat.le_add_right _ _)) h)
theorem log_le {a n : Nat} (h : a < 2 ^ n) (n0 : 0 < n) : a.log2 < n := by
  by_cases z : a = 0
  · subst z; simpa using n0
  · exact (Nat.log2_lt z).mpr h
theorem big_log {a : Nat} (h : a ≤ big) : a.log2 < 1400 := log_le (Nat.lt_of_le_of_lt h big_lt) (by decide)
theorem mulB {a b : Int} (ha : a.natAbs ≤ big) (hb : b.natAbs ≤ big) : CMulW a b := by
  have h1 := big_log ha
  have h2 := big_log hb
  unfold CMulW
  omega
theorem big_len {i : Int} (h : i.natAbs ≤ big) : (Str.ofString (toString i)).length ≤ 402 := by
  have h1 : i.natAbs < 10 ^ 401 := Nat.lt_of_le_of_lt h (by decide +kernel)
  have h2 := int_text_length_le10 (by decide) h1
  rw [PySem.ofString_length]
  exact h2
theorem log_big {i : Int} (h : i.natAbs ≤ big) : i.natAbs.log2 < 1920 := Nat.lt_trans (big_log h) (by decide)
theorem app_len (a b : Str) : (a ++ b).length = a.length + b.length := by
  show (a ++ b).cps.size = a.cps.size + b.cps.size
  rw [Str.cps_append, Array.size_append]
theorem emp_app (x : Str) : Str.empty ++ x = x := TL.ext_tl (by rw [TL.tl_append]; rfl)
theorem ne_mul {a b : Int} (ha : 0 < a) (hb : 0 < b) : a * b ≠ 0 := Int.ne_of_gt (Int.mul_pos ha hb)

theorem fig_len {z : Str} (h : ¬ (1 ≤ z.length ∧ z.length ≤ 400)) : fig z = false := by
  unfold fig
  by_cases a : 1 ≤ z.length
  · have b : ¬ z.length ≤ 400 := fun b => h ⟨a, b⟩
    simp [b]
  · simp [a]
theorem fig_no {z : Str} {i c : Nat} (hc : z.cps[i]? = some c) (h : ¬ c ∈ ("0123456789" : Str).cps.toList) : fig z = false := by
  have : digs z = false := by
    unfold digs
    rw [List.all_eq_false]
    refine ⟨c, ?_, by simpa using h⟩
    rw [← Array.getElem?_toList] at hc
    exact List.mem_of_getElem? hc
  unfold fig
  rw [this]
  simp
theorem fig_yes {z : Str} (h1 : 1 ≤ z.length) (h2 : z.length ≤ 400) (h : ∀ j c, j < z.length → z.cps[j]? = some c → c ∈ ("0123456789" : Str).cps.toList) : fig z = (decide (z = "0") || !decide (z.cps[0]? = some 48)) := by
  have : digs z = true := by
    unfold digs
    rw [List.all_eq_true]
    intro c hc
    obtain ⟨j, hj⟩ := List.mem_iff_getElem?.mp hc
    rw [Array.getElem?_toList] at hj
    have hl : j < z.cps.size := (Array.getElem?_eq_some_iff.mp hj).1
    simpa using h j c hl hj
  unfold fig
  rw [this, decide_eq_true h1, decide_eq_true h2]
  simp
theorem first_sign {z : Str} (h1 : 1 ≤ z.length) : ∃ c, z.cps[0]? = some c ∧ atI z.cps.toList 0 = some c := by
  have hl : 0 < z.cps.toList.length := by rw [Array.length_toList]; exact h1
  refine ⟨z.cps.toList[0], ?_, atI_nat (j := 0) (List.getElem?_eq_getElem hl)⟩
  rw [← Array.getElem?_toList]
  exact List.getElem?_eq_getElem hl
theorem sign_eq (c : Nat) : decide ((⟨#[c]⟩ : Str) = "0") = decide (c = 48) := by
  have : ((⟨#[c]⟩ : Str) = "0") ↔ c = 48 := by
    constructor
    · intro h
      have h2 : (#[c] : Array Nat) = #[48] := congrArg Str.cps h
      exact (Array.mk.inj h2) |> fun q => (List.cons.inj q).1
    · rintro rfl; rfl
  exact decide_eq_decide.mpr this

theorem fig_parts {z : Str} (h : fig z = true) : 1 ≤ z.length ∧ z.length ≤ 400 ∧ NumText.AllDigits z.cps.toList := by
  unfold fig at h
  simp only [Bool.and_eq_true, decide_eq_true_eq] at h
  obtain ⟨⟨⟨h1, h2⟩, h3⟩, _⟩ := h
  refine ⟨h1, h2, fun c hc => ?_⟩
  unfold digs at h3
  have h4 := List.all_eq_true.mp h3 c hc
  have h5 : c ∈ ("0123456789" : Str).cps.toList := by simpa using h4
  have h6 : ∀ d ∈ ("0123456789" : Str).cps.toList, 48 ≤ d ∧ d ≤ 57 := by decide +kernel
  exact h6 c h5
theorem fig_int {z : Str} (h : fig z = true) : PySem.intText? z = some (ival z) ∧ 0 ≤ ival z := by
  obtain ⟨h1, h2, h3⟩ := fig_parts h
  have e := PySem.intText_digits h3 (fun q => by
    have : z.cps.toList.length = z.length := Array.length_toList
    rw [q] at this
    simp at this; omega) (by omega)
  have v : ival z = ((NumText.digitsVal z.cps.toList : Nat) : Int) := by unfold ival; rw [e]; rfl
  rw [v, e]
  exact ⟨rfl, by omega⟩
theorem fig_l {z : Str} (h : fig z = true) : z.length ≤ 640 := by
  have := (fig_parts h).2.1
  omega
end Lw

set_option Elab.async false
set_option linter.all false
set_option maxRecDepth 100000
set_option maxHeartbeats 4000000
namespace Lw
open PySem PySem.Spec L2 Uv
open PyProof.Rows hiding St
local macro_rules | `(tactic| walk_at "us1") => `(tactic| first
  | (with_reducible refine s_seq ?_) | (with_reducible refine s_asg ?_) | (with_reducible refine s_gn ?_) | (with_reducible refine s_ret ?_) | (with_reducible refine s_drop ?_) | (with_reducible refine s_if ?_) | (with_reducible refine s_next ?_)
  | (with_reducible refine s_brk ?_) | (with_reducible refine s_cont ?_)
  | ((with_reducible refine' s_var ?hv ?_); (case hv => exact rfl)) | (with_reducible refine s_c ?_) | (with_reducible refine s_op ?_) | (with_reducible refine s_un ?_) | (with_reducible refine s_cb ?_) | (with_reducible refine s_call ?_)
  | (with_reducible refine s_cons ?_) | (with_reducible refine s_nil ?_) | (with_reducible refine s_test ?_) | (with_reducible refine s_tB ?_) | (with_reducible refine s_not ?_) | (with_reducible refine s_and ?_) | (with_reducible refine s_or ?_)
  | (with_reducible refine s_andV ?_) | (with_reducible refine s_orV ?_) | (with_reducible refine s_notV ?_) | (with_reducible refine s_ifE ?_) | (with_reducible refine s_bl ?_) | (with_reducible refine s_iT ?_) | (with_reducible refine s_iF ?_)
  | (with_reducible refine s_I0 ?_) | (with_reducible refine s_U ?_) | (with_reducible refine s_addI ?_) | (with_reducible refine s_eqI ?_) | (with_reducible refine s_eqS ?_) | (with_reducible refine s_eqB ?_) | (with_reducible refine s_neI ?_) | (with_reducible refine s_neS ?_) | (with_reducible refine s_neB ?_)
  | (with_reducible refine s_tupE ?_) | (with_reducible refine s_lstE ?_))
local macro_rules | `(tactic| walk_at "us") => `(tactic| repeat walk_at "us1")
local macro_rules | `(tactic| walk_at "ulen") => `(tactic| (intro vs H Q E h; repeat' (first | (obtain ⟨e, _⟩ := h; subst e; rfl) | (subst h; rfl) | (refine Or.elim h (fun h => ?_) (fun h => ?_)) | (obtain ⟨_, h⟩ := h))))
local macro_rules | `(tactic| walk_at "uk") => `(tactic| (try dsimp only [cxOf, Cx.suite, Cx.tr]))
local macro_rules | `(tactic| walk_at "us2") => `(tactic| first
  | walk_at "us1" | (with_reducible refine s_dput ?_) | ((with_reducible refine' s_mod ?hc ?_); (case hc => first | decide | assumption | omega))
  | ((with_reducible refine' s_pow ?hc ?_); (case hc => exact ⟨by decide, by decide, by decide⟩)) | (with_reducible refine s_int ?_) | (with_reducible refine s_intB ?_) | (with_reducible refine s_strS ?_) | (with_reducible refine s_abs ?_) | (with_reducible refine s_max ?_) | (with_reducible refine s_min ?_) | (with_reducible refine s_gcd ?_)
  | (with_reducible refine s_chain ?_) | (with_reducible refine s_sl ?_) | (with_reducible refine s_noP ?_) | (with_reducible refine s_part ?_) | (with_reducible refine s_exI ?_) | (with_reducible refine s_isN ?_)
  | ((with_reducible refine' s_mulI ?hc ?_); (case hc => first | exact Or.inl (Or.inr ⟨by decide, by decide⟩) | exact Or.inl (Or.inl ⟨by decide, by decide⟩) | exact Or.inl (Or.inl ⟨by omega, by omega⟩) | exact Or.inl (Or.inr ⟨by omega, by omega⟩)))
  | ((with_reducible refine' s_lenL ?hc ?_); (case hc => first | assumption | exact SqL.of (by assumption))) | ((with_reducible refine' s_lenT ?hc ?_); (case hc => first | assumption | exact SqT.of (by assumption)))
  | ((with_reducible refine' s_divP ?hc ?hd ?_); (case hc => first | decide | assumption | omega); (case hd => first | decide +kernel | assumption)))
local macro_rules | `(tactic| walk_at "us") => `(tactic| repeat walk_at "us2")
local macro_rules | `(tactic| walk_at "uj") => `(tactic| ((walk_at "us"); with_reducible refine s_J ?_))
theorem pick_ix {ns : List Int} {at_ : Int} (h : 0 ≤ at_) (l : at_ < (ns.length : Int)) : ∃ z, atI (ns.map V.int) at_ = some (.int z) := by
  obtain ⟨j, rfl⟩ := Int.eq_ofNat_of_zero_le h
  exact ⟨_, atI_cell (by omega)⟩
section
variable {P : Program} {w : World} {K : PySem.W.Frag} {mg : Str → Option Value} {base : Heap}
variable {cE cB cN : Addr}
theorem ok_l_pick (T : Tp P K mg cE cB cN)
    {f : Addr} {fd : FuncData} {dvs : List V} (F : FunD K "_law_pick" "_law_pick" (defArgs s_l_pick) (defBody s_l_pick) (defScope s_l_pick) dvs [] f fd) : FnG P w K mg base 1 f fd P_l_pick (spPick) := by
  refine fng F sc_l_pick (by walk_at "ulen") (fun cdv A outer s H vs Q E hr0 hg0 h => ?_)
  have hr : Rm 0 (A.deeper (envOfC "_law_pick" (defScope s_l_pick) s.heap.objs.size f cdv)) := ⟨hr0, hg0⟩
  have nd : N_l_pick.Nodup := sc_l_pick.nd
  obtain ⟨b, m, rfl, hb, m0, m9, k⟩ := h
  obtain ⟨c, ns, at_, rest, mixed, count, B⟩ := hb
  refine ⟨_, (pss_cons (ps_dput (hu_of hr.r) (pv 0) pe_str (pe_op op_uAdd (pe_dget (hu_of hr.r) (pv 0) pe_str (fun _ _ => rfl)) pe_int) rfl)
    (pss_cons (ps_if (pt_cmpR op_gt (pe_dget (hu_of hr.r) (pv 0) pe_str (fun _ _ => rfl)) pe_int (nomark _)) (pss_cons (ps_set (i := 2) nd rfl (Or.inl rfl) (pe_dget (hu_of hr.r) (pv 0) pe_str (fun _ _ => rfl)))
    (pss_cons (ps_dput (hu_of hr.r) (pv 0) pe_str (pe_op op_uDiv (pv 2) (pv 1)) rfl)
    (pss_one (ps_ret (pe_op op_mod (pe_callTy call_uInt (by rfl) T.int b_int (pa_cons (pv 2) pa_nil)) (pv 1)))))) pss_nil)
    (pss_cons (ps_set (i := 3) nd rfl (Or.inl rfl) pe_int)
    (pss_consJ (ps_if (pt_cmpR op_lt (pe_dget (hu_of hr.r) (pv 0) pe_str (fun _ _ => rfl)) (pe_callB call_uLen (by rfl) T.len b_len (pa_cons (pe_dget (hu_of hr.r) (pv 0) pe_str (fun _ _ => rfl)) pa_nil)) (nomark _)) (pss_cons (ps_set (i := 3) nd rfl (Or.inl rfl) (pe_ix ix_seq (pe_dget (hu_of hr.r) (pv 0) pe_str (fun _ _ => rfl)) (pe_dget (hu_of hr.r) (pv 0) pe_str (fun _ _ => rfl)) (fun _ _ => rfl)))
    (pss_cons (ps_dput (hu_of hr.r) (pv 0) pe_str (pe_op op_uAdd (pe_dget (hu_of hr.r) (pv 0) pe_str (fun _ _ => rfl)) pe_int) rfl)
    (pss_one (ps_if (pt_cmpR op_ge (pv 3) (pe_op op_pow pe_int pe_int) (nomark _)) (pss_cons (ps_dput (hu_of hr.r) (pv 0) pe_str (pe_op op_uDiv (pv 3) (pv 1)) rfl)
    (pss_one (ps_ret (pe_op op_mod (pe_callTy call_uInt (by rfl) T.int b_int (pa_cons (pv 3) pa_nil)) (pv 1))))) pss_nil)))) pss_nil)
    (pss_cons (ps_set (i := 2) nd rfl (Or.inl rfl) (pe_op op_mod (pe_callTy call_uInt (by rfl) T.int b_int (pa_cons (pe_op op_uAdd (pe_op op_uAdd (pe_op op_uMul (pv 3) pe_int) (pe_op op_uMul (pe_dget (hu_of hr.r) (pv 0) pe_str (fun _ _ => rfl)) pe_int)) (pe_op op_uMul (pe_dget (hu_of hr.r) (pv 0) pe_str (fun _ _ => rfl)) pe_int)) pa_nil)) pe_int))
    (pss_cons (ps_set (i := 2) nd rfl (Or.inl rfl) (pe_op op_mod (pe_callTy call_uInt (by rfl) T.int b_int (pa_cons (pe_op op_uAdd (pe_op op_uMul (pv 2) pe_int) pe_int) pa_nil)) pe_int))
    (pss_cons (ps_dput (hu_of hr.r) (pv 0) pe_str (pe_op op_mod (pe_callTy call_uInt (by rfl) T.int b_int (pa_cons (pv 2) pa_nil)) pe_int) rfl)
    (pss_one (ps_ret (pe_op op_mod (pe_callTy call_uInt (by rfl) T.int b_int (pa_cons (pe_op op_uDiv (pv 2) pe_int) pa_nil)) (pv 1))))))))))), ?_⟩
  walk_at "uk"
  walk_at "us"
  refine s_bget B rfl bv_count ?_
  walk_at "us"
  refine s_bput B bp_count B.nn fun H1 B1 k1 => ?_
  walk_at "us"
  refine s_bget B1 rfl bv_rest ?_
  walk_at "us"
  refine s_ite (fun hr0 => ?_) (fun hr0 => ?_)
  · walk_at "us"
    refine s_bget B1 rfl bv_rest ?_
    walk_at "us"
    refine s_bput B1 bp_rest B.nn fun H2 B2 k2 => ?_
    walk_at "us"
    exact k _ _ (Int.emod_nonneg _ (by omega)) (Int.emod_lt_of_pos _ m0) (k1.tr k2)
  walk_at "uj"
  refine s_seqJ (fun σ H' => ∃ (z at' r' : Int), BagIs H' b c ns at' r' mixed (count + 1) ∧ Kb b H H' ∧ σ = (L2.start N_l_pick [V.ref b, V.int m]).set 3 (some (.int z))) (fun σ H2 ⟨z, at', r', B2, k2, e⟩ => ?_) (fun R hR => ?_)
  · subst e
    walk_at "us"
    refine s_bget B2 rfl bv_mixed ?_
    walk_at "us"
    refine s_bget B2 rfl bv_count ?_
    walk_at "us"
    refine s_bput B2 bp_mixed B2.nn fun H3 B3 k3 => ?_
    walk_at "us"
    exact k _ _ (Int.emod_nonneg _ (by omega)) (Int.emod_lt_of_pos _ m0) (k2.tr k3)
  walk_at "us"
  refine s_bget B1 rfl bv_at ?_
  walk_at "us"
  refine s_bget B1 rfl bv_cells ?_
  walk_at "us"
  refine s_lenL (.of B1.l) ?_
  walk_at "us"
  refine s_ite (fun hr1 => ?_) (fun hr1 => ?_)
  · walk_at "us"
    refine s_bget B1 rfl bv_cells ?_
    refine s_bget B1 rfl bv_at ?_
    obtain ⟨z, hz⟩ := pick_ix B1.nn (by simpa using hr1)
    refine s_ixL (.of B1.l) hz ?_
    walk_at "us"
    refine s_bget B1 rfl bv_at ?_
    walk_at "us"
    refine s_bput B1 bp_at (by have := B1.nn; omega) fun H2 B2 k2 => ?_
    walk_at "us"
    refine s_ite (fun hr2 => ?_) (fun hr2 => ?_)
    · walk_at "us"
      refine s_bput B2 bp_rest B2.nn fun H3 B3 k3 => ?_
      walk_at "us"
      exact k _ _ (Int.emod_nonneg _ (by omega)) (Int.emod_lt_of_pos _ m0) ((k1.tr k2).tr k3)
    walk_at "us"
    exact hR _ _ ⟨z, _, _, B2, k1.tr k2, rfl⟩
  walk_at "us"
  exact hR _ _ ⟨0, _, _, B1, k1, rfl⟩
end
end Lw

set_option Elab.async false
set_option linter.all false
set_option maxRecDepth 100000
set_option maxHeartbeats 4000000
namespace Lw
open PySem PySem.Spec L2 Uv
open PyProof.Rows hiding St
local macro_rules | `(tactic| walk_at "us1") => `(tactic| first
  | (with_reducible refine s_seq ?_) | (with_reducible refine s_asg ?_) | (with_reducible refine s_gn ?_) | (with_reducible refine s_ret ?_) | (with_reducible refine s_drop ?_) | (with_reducible refine s_if ?_) | (with_reducible refine s_next ?_)
  | (with_reducible refine s_brk ?_) | (with_reducible refine s_cont ?_)
  | ((with_reducible refine' s_var ?hv ?_); (case hv => exact rfl)) | (with_reducible refine s_c ?_) | (with_reducible refine s_op ?_) | (with_reducible refine s_un ?_) | (with_reducible refine s_cb ?_) | (with_reducible refine s_call ?_)
  | (with_reducible refine s_cons ?_) | (with_reducible refine s_nil ?_) | (with_reducible refine s_test ?_) | (with_reducible refine s_tB ?_) | (with_reducible refine s_not ?_) | (with_reducible refine s_and ?_) | (with_reducible refine s_or ?_)
  | (with_reducible refine s_andV ?_) | (with_reducible refine s_orV ?_) | (with_reducible refine s_notV ?_) | (with_reducible refine s_ifE ?_) | (with_reducible refine s_bl ?_) | (with_reducible refine s_iT ?_) | (with_reducible refine s_iF ?_)
  | (with_reducible refine s_I0 ?_) | (with_reducible refine s_U ?_) | (with_reducible refine s_addI ?_) | (with_reducible refine s_eqI ?_) | (with_reducible refine s_eqS ?_) | (with_reducible refine s_eqB ?_) | (with_reducible refine s_neI ?_) | (with_reducible refine s_neS ?_) | (with_reducible refine s_neB ?_)
  | (with_reducible refine s_tupE ?_) | (with_reducible refine s_lstE ?_))
local macro_rules | `(tactic| walk_at "us") => `(tactic| repeat walk_at "us1")
local macro_rules | `(tactic| walk_at "ulen") => `(tactic| (intro vs H Q E h; repeat' (first | (obtain ⟨e, _⟩ := h; subst e; rfl) | (subst h; rfl) | (refine Or.elim h (fun h => ?_) (fun h => ?_)) | (obtain ⟨_, h⟩ := h))))
local macro_rules | `(tactic| walk_at "uk") => `(tactic| (try dsimp only [cxOf, Cx.suite, Cx.tr]))
local macro_rules | `(tactic| walk_at "us2") => `(tactic| first
  | walk_at "us1" | (with_reducible refine s_dput ?_) | ((with_reducible refine' s_mod ?hc ?_); (case hc => first | decide | assumption | omega))
  | ((with_reducible refine' s_pow ?hc ?_); (case hc => exact ⟨by decide, by decide, by decide⟩)) | (with_reducible refine s_int ?_) | (with_reducible refine s_intB ?_) | (with_reducible refine s_strS ?_) | (with_reducible refine s_abs ?_) | (with_reducible refine s_max ?_) | (with_reducible refine s_min ?_) | (with_reducible refine s_gcd ?_)
  | (with_reducible refine s_chain ?_) | (with_reducible refine s_sl ?_) | (with_reducible refine s_noP ?_) | (with_reducible refine s_part ?_) | (with_reducible refine s_exI ?_) | (with_reducible refine s_isN ?_)
  | ((with_reducible refine' s_mulI ?hc ?_); (case hc => first | exact Or.inl (Or.inr ⟨by decide, by decide⟩) | exact Or.inl (Or.inl ⟨by decide, by decide⟩) | exact Or.inl (Or.inl ⟨by omega, by omega⟩) | exact Or.inl (Or.inr ⟨by omega, by omega⟩)))
  | ((with_reducible refine' s_lenL ?hc ?_); (case hc => first | assumption | exact SqL.of (by assumption))) | ((with_reducible refine' s_lenT ?hc ?_); (case hc => first | assumption | exact SqT.of (by assumption)))
  | ((with_reducible refine' s_divP ?hc ?hd ?_); (case hc => first | decide | assumption | omega); (case hd => first | decide +kernel | assumption)))
local macro_rules | `(tactic| walk_at "us") => `(tactic| repeat walk_at "us2")
local macro_rules | `(tactic| walk_at "uj") => `(tactic| ((walk_at "us"); with_reducible refine s_J ?_))
section
variable {P : Program} {w : World} {K : PySem.W.Frag} {mg : Str → Option Value} {base : Heap}
variable {cE cB cN : Addr}
theorem ok_l_one_in (T : Tp P K mg cE cB cN)
    (c_l_pick : Cal P w K mg base 1 "_law_pick" P_l_pick [] (spPick))
    {f : Addr} {fd : FuncData} {dvs : List V} (F : FunD K "_law_one_in" "_law_one_in" (defArgs s_l_one_in) (defBody s_l_one_in) (defScope s_l_one_in) dvs [] f fd) : FnG P w K mg base 2 f fd P_l_one_in (spOne) := by
  refine fng F sc_l_one_in (by walk_at "ulen") (fun cdv A outer s H vs Q E hr0 hg0 h => ?_)
  have hr : Rm 1 (A.deeper (envOfC "_law_one_in" (defScope s_l_one_in) s.heap.objs.size f cdv)) := ⟨hr0, hg0⟩
  have nd : N_l_one_in.Nodup := sc_l_one_in.nd
  obtain ⟨b, m, rfl, hb, m0, m9, k⟩ := h
  refine ⟨_, (pss_one (ps_ret (pe_cmpR (op_uEq hr.r.units) (pe_c (E := En) c_l_pick (hr.mono (by decide)) paN (pa_cons (pv 0) (pa_cons (pv 1) pa_nil))) pe_int (nomark _)))), ?_⟩
  walk_at "uk"
  walk_at "us"
  refine ⟨b, m, rfl, hb, m0, m9, fun r H' r0 r1 kb => ?_⟩
  walk_at "us"
  exact k _ _ kb
end
end Lw

set_option Elab.async false
set_option linter.all false
set_option maxRecDepth 100000
set_option maxHeartbeats 4000000
namespace Lw
open PySem PySem.Spec L2 Uv
open PyProof.Rows hiding St
local macro_rules | `(tactic| walk_at "us1") => `(tactic| first
  | (with_reducible refine s_seq ?_) | (with_reducible refine s_asg ?_) | (with_reducible refine s_gn ?_) | (with_reducible refine s_ret ?_) | (with_reducible refine s_drop ?_) | (with_reducible refine s_if ?_) | (with_reducible refine s_next ?_)
  | (with_reducible refine s_brk ?_) | (with_reducible refine s_cont ?_)
  | ((with_reducible refine' s_var ?hv ?_); (case hv => exact rfl)) | (with_reducible refine s_c ?_) | (with_reducible refine s_op ?_) | (with_reducible refine s_un ?_) | (with_reducible refine s_cb ?_) | (with_reducible refine s_call ?_)
  | (with_reducible refine s_cons ?_) | (with_reducible refine s_nil ?_) | (with_reducible refine s_test ?_) | (with_reducible refine s_tB ?_) | (with_reducible refine s_not ?_) | (with_reducible refine s_and ?_) | (with_reducible refine s_or ?_)
  | (with_reducible refine s_andV ?_) | (with_reducible refine s_orV ?_) | (with_reducible refine s_notV ?_) | (with_reducible refine s_ifE ?_) | (with_reducible refine s_bl ?_) | (with_reducible refine s_iT ?_) | (with_reducible refine s_iF ?_)
  | (with_reducible refine s_I0 ?_) | (with_reducible refine s_U ?_) | (with_reducible refine s_addI ?_) | (with_reducible refine s_eqI ?_) | (with_reducible refine s_eqS ?_) | (with_reducible refine s_eqB ?_) | (with_reducible refine s_neI ?_) | (with_reducible refine s_neS ?_) | (with_reducible refine s_neB ?_)
  | (with_reducible refine s_tupE ?_) | (with_reducible refine s_lstE ?_))
local macro_rules | `(tactic| walk_at "us") => `(tactic| repeat walk_at "us1")
local macro_rules | `(tactic| walk_at "ulen") => `(tactic| (intro vs H Q E h; repeat' (first | (obtain ⟨e, _⟩ := h; subst e; rfl) | (subst h; rfl) | (refine Or.elim h (fun h => ?_) (fun h => ?_)) | (obtain ⟨_, h⟩ := h))))
local macro_rules | `(tactic| walk_at "uk") => `(tactic| (try dsimp only [cxOf, Cx.suite, Cx.tr]))
local macro_rules | `(tactic| walk_at "us2") => `(tactic| first
  | walk_at "us1" | (with_reducible refine s_dput ?_) | ((with_reducible refine' s_mod ?hc ?_); (case hc => first | decide | assumption | omega))
  | ((with_reducible refine' s_pow ?hc ?_); (case hc => exact ⟨by decide, by decide, by decide⟩)) | (with_reducible refine s_int ?_) | (with_reducible refine s_intB ?_) | (with_reducible refine s_strS ?_) | (with_reducible refine s_abs ?_) | (with_reducible refine s_max ?_) | (with_reducible refine s_min ?_) | (with_reducible refine s_gcd ?_)
  | (with_reducible refine s_chain ?_) | (with_reducible refine s_sl ?_) | (with_reducible refine s_noP ?_) | (with_reducible refine s_part ?_) | (with_reducible refine s_exI ?_) | (with_reducible refine s_isN ?_)
  | ((with_reducible refine' s_mulI ?hc ?_); (case hc => first | exact Or.inl (Or.inr ⟨by decide, by decide⟩) | exact Or.inl (Or.inl ⟨by decide, by decide⟩) | exact Or.inl (Or.inl ⟨by omega, by omega⟩) | exact Or.inl (Or.inr ⟨by omega, by omega⟩)))
  | ((with_reducible refine' s_lenL ?hc ?_); (case hc => first | assumption | exact SqL.of (by assumption))) | ((with_reducible refine' s_lenT ?hc ?_); (case hc => first | assumption | exact SqT.of (by assumption)))
  | ((with_reducible refine' s_divP ?hc ?hd ?_); (case hc => first | decide | assumption | omega); (case hd => first | decide +kernel | assumption)))
local macro_rules | `(tactic| walk_at "us") => `(tactic| repeat walk_at "us2")
local macro_rules | `(tactic| walk_at "uj") => `(tactic| ((walk_at "us"); with_reducible refine s_J ?_))
theorem mem_ix {xs : List V} {r : Int} (h0 : 0 ≤ r) (h1 : r < (xs.length : Int)) : ∃ v, atI xs r = some v ∧ v ∈ xs := by
  obtain ⟨j, rfl⟩ := Int.eq_ofNat_of_zero_le h0
  have hj : j < xs.length := by omega
  exact ⟨_, atI_nat (List.getElem?_eq_getElem hj), List.getElem_mem hj⟩
theorem ix_str {z : Str} {r : Int} (h0 : 0 ≤ r) (h1 : r < (z.length : Int)) : ∃ c, atI z.cps.toList r = some c := by
  obtain ⟨j, rfl⟩ := Int.eq_ofNat_of_zero_le h0
  have hj : j < z.cps.toList.length := by
    have : (z.length : Int) = z.cps.toList.length := by simp [PySem.Str.length]
    omega
  exact ⟨_, atI_nat (List.getElem?_eq_getElem hj)⟩
theorem log_small {n : Nat} (h : n ≤ 10000) : ((n : Int)).natAbs.log2 < 9000 := by
  have : (n : Int).natAbs = n := rfl
  rw [this]
  by_cases z : n = 0
  · subst z; decide
  · have := (Nat.log2_lt z (k := 14)).mpr (by omega)
    omega
section
variable {P : Program} {w : World} {K : PySem.W.Frag} {mg : Str → Option Value} {base : Heap}
variable {cE cB cN : Addr}
theorem ok_l_choice (T : Tp P K mg cE cB cN)
    (c_l_pick : Cal P w K mg base 1 "_law_pick" P_l_pick [] (spPick))
    {f : Addr} {fd : FuncData} {dvs : List V} (F : FunD K "_law_choice" "_law_choice" (defArgs s_l_choice) (defBody s_l_choice) (defScope s_l_choice) dvs [] f fd) : FnG P w K mg base 2 f fd P_l_choice (spChoice K) := by
  refine fng F sc_l_choice (by walk_at "ulen") (fun cdv A outer s H vs Q E hr0 hg0 h => ?_)
  have hr : Rm 1 (A.deeper (envOfC "_law_choice" (defScope s_l_choice) s.heap.objs.size f cdv)) := ⟨hr0, hg0⟩
  have nd : N_l_choice.Nodup := sc_l_choice.nd
  refine ⟨_, (pss_one (ps_ret (pe_ix ix_seq (pv 1) (pe_c (E := En) c_l_pick (hr.mono (by decide)) paN (pa_cons (pv 0) (pa_cons (pe_callB call_uLen (by rfl) T.len b_len (pa_cons (pv 1) pa_nil)) pa_nil))) (fun _ _ => rfl)))), ?_⟩
  walk_at "uk"
  obtain ⟨b, hb, ⟨p, xs, rfl, hp, l0, l9, k⟩ | ⟨z, rfl, l0, l9, k⟩⟩ := h
  · walk_at "us"
    refine ⟨b, _, rfl, hb, by omega, log_small (by omega), fun r H' r0 r1 kb => ?_⟩
    obtain ⟨v, hv, hm⟩ := mem_ix r0 r1
    refine s_ixL (kb.l hp) hv ?_
    exact k _ _ hm kb
  · walk_at "us"
    refine s_lenS (by show z.length ≤ 16777216; omega) ?_
    walk_at "us"
    refine ⟨b, _, rfl, hb, by omega, log_small (by omega), fun r H' r0 r1 kb => ?_⟩
    obtain ⟨c, hc⟩ := ix_str r0 r1
    refine s_ixS (by show z.length ≤ 16777216; omega) hc ?_
    exact k _ _ kb
end
end Lw

set_option Elab.async false
set_option linter.all false
set_option maxRecDepth 100000
set_option maxHeartbeats 4000000
namespace Lw
open PySem PySem.Spec L2 Uv
open PyProof.Rows hiding St
local macro_rules | `(tactic| walk_at "us1") => `(tactic| first
  | (with_reducible refine s_seq ?_) | (with_reducible refine s_asg ?_) | (with_reducible refine s_gn ?_) | (with_reducible refine s_ret ?_) | (with_reducible refine s_drop ?_) | (with_reducible refine s_if ?_) | (with_reducible refine s_next ?_)
  | (with_reducible refine s_brk ?_) | (with_reducible refine s_cont ?_)
  | ((with_reducible refine' s_var ?hv ?_); (case hv => exact rfl)) | (with_reducible refine s_c ?_) | (with_reducible refine s_op ?_) | (with_reducible refine s_un ?_) | (with_reducible refine s_cb ?_) | (with_reducible refine s_call ?_)
  | (with_reducible refine s_cons ?_) | (with_reducible refine s_nil ?_) | (with_reducible refine s_test ?_) | (with_reducible refine s_tB ?_) | (with_reducible refine s_not ?_) | (with_reducible refine s_and ?_) | (with_reducible refine s_or ?_)
  | (with_reducible refine s_andV ?_) | (with_reducible refine s_orV ?_) | (with_reducible refine s_notV ?_) | (with_reducible refine s_ifE ?_) | (with_reducible refine s_bl ?_) | (with_reducible refine s_iT ?_) | (with_reducible refine s_iF ?_)
  | (with_reducible refine s_I0 ?_) | (with_reducible refine s_U ?_) | (with_reducible refine s_addI ?_) | (with_reducible refine s_eqI ?_) | (with_reducible refine s_eqS ?_) | (with_reducible refine s_eqB ?_) | (with_reducible refine s_neI ?_) | (with_reducible refine s_neS ?_) | (with_reducible refine s_neB ?_)
  | (with_reducible refine s_tupE ?_) | (with_reducible refine s_lstE ?_))
local macro_rules | `(tactic| walk_at "us") => `(tactic| repeat walk_at "us1")
local macro_rules | `(tactic| walk_at "ulen") => `(tactic| (intro vs H Q E h; repeat' (first | (obtain ⟨e, _⟩ := h; subst e; rfl) | (subst h; rfl) | (refine Or.elim h (fun h => ?_) (fun h => ?_)) | (obtain ⟨_, h⟩ := h))))
local macro_rules | `(tactic| walk_at "uk") => `(tactic| (try dsimp only [cxOf, Cx.suite, Cx.tr]))
local macro_rules | `(tactic| walk_at "us2") => `(tactic| first
  | walk_at "us1" | (with_reducible refine s_dput ?_) | ((with_reducible refine' s_mod ?hc ?_); (case hc => first | decide | assumption | omega))
  | (with_reducible refine s_for ?_) | (with_reducible refine s_lc ?_) | (with_reducible refine s_itl ?_) | (with_reducible refine s_itt ?_) | (with_reducible refine s_its ?_) | (with_reducible refine s_itr ?_) | (with_reducible refine s_itr2 ?_) | (with_reducible refine s_disp ?_) | (with_reducible refine s_prn ?_) | (with_reducible refine s_prc ?_) | (with_reducible refine s_m1 ?_) | (with_reducible refine s_isS ?_) | (with_reducible refine s_um1 ?_) | (with_reducible refine s_isB ?_) | (with_reducible refine s_isn ?_) | (with_reducible refine s_notn ?_) | (with_reducible refine s_jd ?_) | (with_reducible refine s_jn ?_) | (with_reducible refine s_jc ?_) | (with_reducible refine s_fmt ?_) | (with_reducible refine s_gc ?_) | (with_reducible refine s_gnil ?_) | (with_reducible refine s_yes ?_)
  | ((with_reducible refine' s_pow ?hc ?_); (case hc => exact ⟨by decide, by decide, by decide⟩)) | (with_reducible refine s_int ?_) | (with_reducible refine s_intB ?_) | (with_reducible refine s_strS ?_) | (with_reducible refine s_abs ?_) | (with_reducible refine s_max ?_) | (with_reducible refine s_min ?_) | (with_reducible refine s_gcd ?_)
  | (with_reducible refine s_chain ?_) | (with_reducible refine s_sl ?_) | (with_reducible refine s_noP ?_) | (with_reducible refine s_part ?_) | (with_reducible refine s_exI ?_) 
  | ((with_reducible refine' s_mulI ?hc ?_); (case hc => first | exact Or.inl (Or.inr ⟨by decide, by decide⟩) | exact Or.inl (Or.inl ⟨by decide, by decide⟩) | exact Or.inl (Or.inl ⟨by omega, by omega⟩) | exact Or.inl (Or.inr ⟨by omega, by omega⟩)))
  | ((with_reducible refine' s_lenL ?hc ?_); (case hc => first | assumption | exact SqL.of (by assumption))) | ((with_reducible refine' s_lenT ?hc ?_); (case hc => first | assumption | exact SqT.of (by assumption)))
  | ((with_reducible refine' s_divP ?hc ?hd ?_); (case hc => first | decide | assumption | omega); (case hd => first | decide +kernel | assumption)))
local macro_rules | `(tactic| walk_at "us") => `(tactic| repeat walk_at "us2")
local macro_rules | `(tactic| walk_at "uj") => `(tactic| ((walk_at "us"); with_reducible refine s_J ?_))
theorem take_ix {ns : List Int} {i : Nat} {x : V} (h : (ns.map V.int)[i]? = some x) : ∃ c, x = .int c ∧ ns.take (i + 1) = ns.take i ++ [c] ∧ i < ns.length := by
  rw [List.getElem?_map] at h
  cases e : ns[i]? with
  | none => rw [e] at h; cases h
  | some c =>
    rw [e] at h
    have hi := (List.getElem?_eq_some_iff.mp e).1
    refine ⟨c, (Option.some.inj h).symm, ?_, hi⟩
    rw [List.take_add_one, e]
    rfl
section
variable {P : Program} {w : World} {K : PySem.W.Frag} {mg : Str → Option Value} {base : Heap}
variable {cE cB cN : Addr}
theorem ok_l_bag_of (T : Tp P K mg cE cB cN)
    {f : Addr} {fd : FuncData} {dvs : List V} (F : FunD K "_law_bag_of" "_law_bag_of" (defArgs s_l_bag_of) (defBody s_l_bag_of) (defScope s_l_bag_of) dvs [] f fd) : FnG P w K mg base 1 f fd P_l_bag_of (spBagOf K) := by
  refine fng F sc_l_bag_of (by walk_at "ulen") (fun cdv A outer s H vs Q E hr0 hg0 h => ?_)
  have hr : Rm 0 (A.deeper (envOfC "_law_bag_of" (defScope s_l_bag_of) s.heap.objs.size f cdv)) := ⟨hr0, hg0⟩
  have nd : N_l_bag_of.Nodup := sc_l_bag_of.nd
  have po : PassesOwn (model P w) (cxOf (L2.CX P w) P w K mg base N_l_bag_of "_law_bag_of" (defScope s_l_bag_of) f cdv A outer s H E).A (cxOf (L2.CX P w) P w K mg base N_l_bag_of "_law_bag_of" (defScope s_l_bag_of) f cdv A outer s H E).env (cxOf (L2.CX P w) P w K mg base N_l_bag_of "_law_bag_of" (defScope s_l_bag_of) f cdv A outer s H E).xe := passes_of rfl
  obtain ⟨p, ns, rfl, hp, hl, hb, k⟩ := h
  refine ⟨_, (pss_cons (ps_set (i := 1) nd rfl (Or.inl rfl) pe_int)
    (pss_cons (ps_for po rfl (pi_list (pv 0)) (pg_name (i := 2) nd rfl (Or.inl rfl))
    (pss_one (ps_set (i := 1) nd rfl (Or.inl rfl) (pe_op op_mod (pe_callTy call_uInt (by rfl) T.int b_int (pa_cons (pe_op op_uAdd (pe_op op_uAdd (pe_op op_uMul (pv 1) pe_int) (pv 2)) pe_int) pa_nil)) pe_int))))
    (pss_one (ps_ret (pe_disp (pps_cons pe_str (pe_lc (own := [("_law_cell", 2)]) (g := gName 2) (by rfl) nd (pi_list (pv 0)) (blkOk_by (own := [("_law_cell", 2)]) (N := N_l_bag_of) (sc := defScope s_l_bag_of) (by decide +kernel)) (fun s_ H_ C_ cl_ fp_ => pg_name (i := 2) nd rfl (Or.inl rfl)) (fun s_ H_ C_ cl_ fp_ => pts_nil) (fun s_ H_ C_ cl_ fp_ => (pv 2))) (pps_cons pe_str pe_int (pps_cons pe_str pe_int (pps_cons pe_str (pv 1) (pps_cons pe_str pe_int pps_nil))))) (by rfl) (by rfl) (fun z => by cases z) (by decide)))))), ?_⟩
  walk_at "uk"
  walk_at "us"
  refine loopL (xs := List.map V.int ns) (fun i σ' H' => H = H' ∧ ∃ m : Int, 0 ≤ m ∧ m < 1000003 ∧ ∃ oc, σ' = ((L2.start N_l_bag_of [V.ref p]).set 1 (some (.int m))).set 2 oc) ⟨rfl, 7, by decide, by decide, none, rfl⟩ ?_ ?_ ?_
  · rintro i σ' _ ⟨rfl, _⟩
    exact hp
  · rintro σ' _ ⟨rfl, m, m0, m1, oc, rfl⟩
    walk_at "us"
    intro q hq
    walk_at "us"
    have e0 := exN (o := .dK []) hq
    refine lcL (Ex.sl hp e0) (fun D i acc H' => Ex (upd H q (.dK [])) H' ∧ H' D = some (.lst acc) ∧ acc = (ns.take i).map V.int) (fun D hD => ⟨exN hD, upd_same, rfl⟩) (fun D i acc H' z => z.1) ?_ ?_
    · rintro D acc H' hD ⟨e, hd, rfl⟩
      walk_at "us"
      refine ⟨e _ _ upd_same, bagK D 0 0 m 0, rfl, Nat.le_of_ble_eq_true rfl, ?_⟩
      rw [merge_new (kvs := bagK D 0 0 m 0) (show ((["cells", "at", "rest", "mixed", "count"] : List Str).map (fun x => (.inr x : Key))).Nodup from by decide +kernel)]
      have nq : D ≠ q := fun z => by rw [z, upd_same] at hD; cases hD
      exact k _ _ (ex_put hq (e0.tr e)) ⟨D, ns, 0, 0, m, 0, upd_same, by rw [upd_ne nq, hd, List.length_map, List.take_length], Int.le_refl _, hl⟩
    · rintro D i x acc H' hD hx ⟨e, hd, rfl⟩
      obtain ⟨c, rfl, ht, hi⟩ := take_ix hx
      walk_at "us"
      refine ⟨rfl, ?_⟩
      walk_at "us"
      exact ⟨_, hd, by rw [List.length_map, List.length_take]; exact Nat.lt_of_le_of_lt (Nat.min_le_right _ _) (Nat.lt_of_le_of_lt hl (by decide)), _, ex_put hD e, upd_same, by rw [ht, List.map_append]; rfl⟩
  · rintro i x σ' _ hx ⟨rfl, m, m0, m1, oc, rfl⟩
    obtain ⟨c, rfl, _⟩ := take_ix hx
    walk_at "us"
    exact ⟨rfl, _, Int.emod_nonneg _ (by decide), Int.emod_lt_of_pos _ (by decide), some (.int c), rfl⟩
end
end Lw

set_option Elab.async false
set_option linter.all false
set_option maxRecDepth 100000
set_option maxHeartbeats 4000000
namespace Lw
open PySem PySem.Spec L2 Uv
open PyProof.Rows hiding St
local macro_rules | `(tactic| walk_at "us1") => `(tactic| first
  | (with_reducible refine s_seq ?_) | (with_reducible refine s_asg ?_) | (with_reducible refine s_gn ?_) | (with_reducible refine s_ret ?_) | (with_reducible refine s_drop ?_) | (with_reducible refine s_if ?_) | (with_reducible refine s_next ?_)
  | (with_reducible refine s_brk ?_) | (with_reducible refine s_cont ?_)
  | ((with_reducible refine' s_var ?hv ?_); (case hv => exact rfl)) | (with_reducible refine s_c ?_) | (with_reducible refine s_op ?_) | (with_reducible refine s_un ?_) | (with_reducible refine s_cb ?_) | (with_reducible refine s_call ?_)
  | (with_reducible refine s_cons ?_) | (with_reducible refine s_nil ?_) | (with_reducible refine s_test ?_) | (with_reducible refine s_tB ?_) | (with_reducible refine s_not ?_) | (with_reducible refine s_and ?_) | (with_reducible refine s_or ?_)
  | (with_reducible refine s_andV ?_) | (with_reducible refine s_orV ?_) | (with_reducible refine s_notV ?_) | (with_reducible refine s_ifE ?_) | (with_reducible refine s_bl ?_) | (with_reducible refine s_iT ?_) | (with_reducible refine s_iF ?_)
  | (with_reducible refine s_I0 ?_) | (with_reducible refine s_U ?_) | (with_reducible refine s_addI ?_) | (with_reducible refine s_eqI ?_) | (with_reducible refine s_eqS ?_) | (with_reducible refine s_eqB ?_) | (with_reducible refine s_neI ?_) | (with_reducible refine s_neS ?_) | (with_reducible refine s_neB ?_)
  | (with_reducible refine s_tupE ?_) | (with_reducible refine s_lstE ?_))
local macro_rules | `(tactic| walk_at "us") => `(tactic| repeat walk_at "us1")
local macro_rules | `(tactic| walk_at "ulen") => `(tactic| (intro vs H Q E h; repeat' (first | (obtain ⟨e, _⟩ := h; subst e; rfl) | (subst h; rfl) | (refine Or.elim h (fun h => ?_) (fun h => ?_)) | (obtain ⟨_, h⟩ := h))))
local macro_rules | `(tactic| walk_at "uk") => `(tactic| (try dsimp only [cxOf, Cx.suite, Cx.tr]))
local macro_rules | `(tactic| walk_at "us2") => `(tactic| first
  | walk_at "us1" | (with_reducible refine s_dput ?_) | ((with_reducible refine' s_mod ?hc ?_); (case hc => first | decide | assumption | omega))
  | ((with_reducible refine' s_pow ?hc ?_); (case hc => exact ⟨by decide, by decide, by decide⟩)) | (with_reducible refine s_int ?_) | (with_reducible refine s_intB ?_) | (with_reducible refine s_strS ?_) | (with_reducible refine s_abs ?_) | (with_reducible refine s_max ?_) | (with_reducible refine s_min ?_) | (with_reducible refine s_gcd ?_)
  | (with_reducible refine s_chain ?_) | (with_reducible refine s_sl ?_) | (with_reducible refine s_noP ?_) | (with_reducible refine s_part ?_) | (with_reducible refine s_exI ?_) | (with_reducible refine s_isN ?_)
  | ((with_reducible refine' s_mulI ?hc ?_); (case hc => first | exact Or.inl (Or.inr ⟨by decide, by decide⟩) | exact Or.inl (Or.inl ⟨by decide, by decide⟩) | exact Or.inl (Or.inl ⟨by omega, by omega⟩) | exact Or.inl (Or.inr ⟨by omega, by omega⟩)))
  | ((with_reducible refine' s_lenL ?hc ?_); (case hc => first | assumption | exact SqL.of (by assumption))) | ((with_reducible refine' s_lenT ?hc ?_); (case hc => first | assumption | exact SqT.of (by assumption)))
  | ((with_reducible refine' s_divP ?hc ?hd ?_); (case hc => first | decide | assumption | omega); (case hd => first | decide +kernel | assumption)))
local macro_rules | `(tactic| walk_at "us") => `(tactic| repeat walk_at "us2")
local macro_rules | `(tactic| walk_at "uj") => `(tactic| ((walk_at "us"); with_reducible refine s_J ?_))
section
variable {P : Program} {w : World} {K : PySem.W.Frag} {mg : Str → Option Value} {base : Heap}
variable {cE cB cN : Addr}
theorem ok_l_integer (T : Tp P K mg cE cB cN)
    {f : Addr} {fd : FuncData} {dvs : List V} (F : FunD K "_law_integer" "_law_integer" (defArgs s_l_integer) (defBody s_l_integer) (defScope s_l_integer) dvs [] f fd) : FnG P w K mg base 1 f fd P_l_integer (spInteger K) := by
  refine fng F sc_l_integer (by walk_at "ulen") (fun cdv A outer s H vs Q E hr0 hg0 h => ?_)
  have hr : Rm 0 (A.deeper (envOfC "_law_integer" (defScope s_l_integer) s.heap.objs.size f cdv)) := ⟨hr0, hg0⟩
  have nd : N_l_integer.Nodup := sc_l_integer.nd
  obtain ⟨i, rfl, k⟩ := h
  refine ⟨_, (pss_one (ps_ret (pe_and (pe_callB call_isi (by rfl) T.isinstance b_isinstance (pa_cons (pv 0) (pa_cons (pe_bltn (v := .ty "int") (by rfl) T.int b_int rfl) pa_nil))) (pe_one (pe_not (pe_callB call_isi (by rfl) T.isinstance b_isinstance (pa_cons (pv 0) (pa_cons (pe_bltn (v := .ty "bool") (by rfl) T.bool b_bool rfl) pa_nil)))))))), ?_⟩
  walk_at "uk"
  walk_at "us"
  refine s_isInt (.int i) ?_
  walk_at "us"
  refine s_isBool (.int i) ?_
  walk_at "us"
  exact k
end
end Lw

set_option Elab.async false
set_option linter.all false
set_option maxRecDepth 100000
set_option maxHeartbeats 4000000
namespace Lw
open PySem PySem.Spec L2 Uv
open PyProof.Rows hiding St
local macro_rules | `(tactic| walk_at "us1") => `(tactic| first
  | (with_reducible refine s_seq ?_) | (with_reducible refine s_asg ?_) | (with_reducible refine s_gn ?_) | (with_reducible refine s_ret ?_) | (with_reducible refine s_drop ?_) | (with_reducible refine s_if ?_) | (with_reducible refine s_next ?_)
  | (with_reducible refine s_brk ?_) | (with_reducible refine s_cont ?_)
  | ((with_reducible refine' s_var ?hv ?_); (case hv => exact rfl)) | (with_reducible refine s_c ?_) | (with_reducible refine s_op ?_) | (with_reducible refine s_un ?_) | (with_reducible refine s_cb ?_) | (with_reducible refine s_call ?_)
  | (with_reducible refine s_cons ?_) | (with_reducible refine s_nil ?_) | (with_reducible refine s_test ?_) | (with_reducible refine s_tB ?_) | (with_reducible refine s_not ?_) | (with_reducible refine s_and ?_) | (with_reducible refine s_or ?_)
  | (with_reducible refine s_andV ?_) | (with_reducible refine s_orV ?_) | (with_reducible refine s_notV ?_) | (with_reducible refine s_ifE ?_) | (with_reducible refine s_bl ?_) | (with_reducible refine s_iT ?_) | (with_reducible refine s_iF ?_)
  | (with_reducible refine s_I0 ?_) | (with_reducible refine s_U ?_) | (with_reducible refine s_addI ?_) | (with_reducible refine s_eqI ?_) | (with_reducible refine s_eqS ?_) | (with_reducible refine s_eqB ?_) | (with_reducible refine s_neI ?_) | (with_reducible refine s_neS ?_) | (with_reducible refine s_neB ?_)
  | (with_reducible refine s_tupE ?_) | (with_reducible refine s_lstE ?_))
local macro_rules | `(tactic| walk_at "us") => `(tactic| repeat walk_at "us1")
local macro_rules | `(tactic| walk_at "ulen") => `(tactic| (intro vs H Q E h; repeat' (first | (obtain ⟨e, _⟩ := h; subst e; rfl) | (subst h; rfl) | (refine Or.elim h (fun h => ?_) (fun h => ?_)) | (obtain ⟨_, h⟩ := h))))
local macro_rules | `(tactic| walk_at "uk") => `(tactic| (try dsimp only [cxOf, Cx.suite, Cx.tr]))
local macro_rules | `(tactic| walk_at "us2") => `(tactic| first
  | walk_at "us1" | (with_reducible refine s_dput ?_) | ((with_reducible refine' s_mod ?hc ?_); (case hc => first | decide | assumption | omega))
  | (with_reducible refine s_for ?_) | (with_reducible refine s_lc ?_) | (with_reducible refine s_itl ?_) | (with_reducible refine s_itt ?_) | (with_reducible refine s_its ?_) | (with_reducible refine s_itr ?_) | (with_reducible refine s_itr2 ?_) | (with_reducible refine s_disp ?_) | (with_reducible refine s_prn ?_) | (with_reducible refine s_prc ?_) | (with_reducible refine s_m1 ?_) | (with_reducible refine s_isS ?_) | (with_reducible refine s_um1 ?_) | (with_reducible refine s_isB ?_) | (with_reducible refine s_isn ?_) | (with_reducible refine s_notn ?_) | (with_reducible refine s_jd ?_) | (with_reducible refine s_jn ?_) | (with_reducible refine s_jc ?_) | (with_reducible refine s_fmt ?_) | (with_reducible refine s_gc ?_) | (with_reducible refine s_gnil ?_) | (with_reducible refine s_yes ?_)
  | ((with_reducible refine' s_pow ?hc ?_); (case hc => exact ⟨by decide, by decide, by decide⟩)) | (with_reducible refine s_int ?_) | (with_reducible refine s_intB ?_) | (with_reducible refine s_strS ?_) | (with_reducible refine s_abs ?_) | (with_reducible refine s_max ?_) | (with_reducible refine s_min ?_) | (with_reducible refine s_gcd ?_)
  | (with_reducible refine s_chain ?_) | (with_reducible refine s_sl ?_) | (with_reducible refine s_noP ?_) | (with_reducible refine s_part ?_) | (with_reducible refine s_exI ?_) 
  | ((with_reducible refine' s_mulI ?hc ?_); (case hc => first | exact Or.inl (Or.inr ⟨by decide, by decide⟩) | exact Or.inl (Or.inl ⟨by decide, by decide⟩) | exact Or.inl (Or.inl ⟨by omega, by omega⟩) | exact Or.inl (Or.inr ⟨by omega, by omega⟩)))
  | ((with_reducible refine' s_lenL ?hc ?_); (case hc => first | assumption | exact SqL.of (by assumption))) | ((with_reducible refine' s_lenT ?hc ?_); (case hc => first | assumption | exact SqT.of (by assumption)))
  | ((with_reducible refine' s_divP ?hc ?hd ?_); (case hc => first | decide | assumption | omega); (case hd => first | decide +kernel | assumption)))
local macro_rules | `(tactic| walk_at "us") => `(tactic| repeat walk_at "us2")
local macro_rules | `(tactic| walk_at "uj") => `(tactic| ((walk_at "us"); with_reducible refine s_J ?_))
theorem gcd_step (a b : Int) (ha : 0 ≤ a) (hb : 0 < b) : Int.gcd b (a % b) = Int.gcd a b := by
  obtain ⟨x, rfl⟩ := Int.eq_ofNat_of_zero_le ha
  obtain ⟨y, rfl⟩ := Int.eq_ofNat_of_zero_le (Int.le_of_lt hb)
  show Nat.gcd y (x % y) = Nat.gcd x y
  rw [Nat.gcd_comm y, ← Nat.gcd_rec, Nat.gcd_comm]
section
variable {P : Program} {w : World} {K : PySem.W.Frag} {mg : Str → Option Value} {base : Heap}
variable {cE cB cN : Addr}
theorem ok_l_gcd (T : Tp P K mg cE cB cN)
    {f : Addr} {fd : FuncData} {dvs : List V} (F : FunD K "_law_gcd" "_law_gcd" (defArgs s_l_gcd) (defBody s_l_gcd) (defScope s_l_gcd) dvs [] f fd) : FnG P w K mg base 1 f fd P_l_gcd (spGcd) := by
  refine fng F sc_l_gcd (by walk_at "ulen") (fun cdv A outer s H vs Q E hr0 hg0 h => ?_)
  have hr : Rm 0 (A.deeper (envOfC "_law_gcd" (defScope s_l_gcd) s.heap.objs.size f cdv)) := ⟨hr0, hg0⟩
  have nd : N_l_gcd.Nodup := sc_l_gcd.nd
  have po : PassesOwn (model P w) (cxOf (L2.CX P w) P w K mg base N_l_gcd "_law_gcd" (defScope s_l_gcd) f cdv A outer s H E).A (cxOf (L2.CX P w) P w K mg base N_l_gcd "_law_gcd" (defScope s_l_gcd) f cdv A outer s H E).env (cxOf (L2.CX P w) P w K mg base N_l_gcd "_law_gcd" (defScope s_l_gcd) f cdv A outer s H E).xe := passes_of rfl
  obtain ⟨n, d, rfl, k⟩ := h
  refine ⟨_, (pss_cons (ps_set (i := 2) nd rfl (Or.inl rfl) (pe_callB call_uAbs (by rfl) T.abs b_abs (pa_cons (pv 0) pa_nil)))
    (pss_cons (ps_set (i := 3) nd rfl (Or.inl rfl) (pe_callB call_uAbs (by rfl) T.abs b_abs (pa_cons (pv 1) pa_nil)))
    (pss_cons (ps_while po (pt_cmpR op_gt (pv 3) pe_int (nomark _)) (pss_cons (ps_set (i := 4) nd rfl (Or.inl rfl) (pe_op op_mod (pe_callTy call_uInt (by rfl) T.int b_int (pa_cons (pv 2) pa_nil)) (pv 3)))
    (pss_cons (ps_set (i := 2) nd rfl (Or.inl rfl) (pv 3))
    (pss_one (ps_set (i := 3) nd rfl (Or.inl rfl) (pv 4))))))
    (pss_one (ps_ret (pv 2)))))), ?_⟩
  walk_at "uk"
  walk_at "us"
  refine ⟨fun m σ' H' => H = H' ∧ ∃ (a : Int) (oc : Option V), 0 ≤ a ∧ Int.gcd a (m : Int) = Int.gcd n d ∧ σ' = (((L2.start N_l_gcd [.int n, .int d]).set 2 (some (.int a))).set 3 (some (.int (m : Int)))).set 4 oc, ⟨d.natAbs, rfl, (n.natAbs : Int), none, by omega, by simp [Int.gcd], rfl⟩, ?_⟩
  rintro m σ' _ ⟨rfl, a, oc, a0, hg, rfl⟩
  walk_at "us"
  refine s_ite (fun hm => ?_) (fun hm => ?_)
  · refine s_turn ?_
    walk_at "us"
    have r0 : 0 ≤ a % (m : Int) := Int.emod_nonneg _ (by omega)
    have r1 : a % (m : Int) < m := Int.emod_lt_of_pos _ hm
    refine ⟨(a % (m : Int)).toNat, by omega, rfl, (m : Int), some (.int (a % (m : Int))), by omega, ?_, ?_⟩
    · rw [Int.toNat_of_nonneg r0, gcd_step a m a0 hm, hg]
    · rw [Int.toNat_of_nonneg r0]
      rfl
  · walk_at "us"
    have : m = 0 := by omega
    subst this
    rw [show Int.gcd n d = Int.gcd a ((0 : Nat) : Int) from hg.symm] at k
    have e : (Int.gcd a ((0 : Nat) : Int) : Int) = a := by simp; omega
    rw [e] at k
    exact k
end
end Lw

set_option Elab.async false
set_option linter.all false
set_option maxRecDepth 100000
set_option maxHeartbeats 4000000
namespace Lw
open PySem PySem.Spec L2 Uv
open PyProof.Rows hiding St
local macro_rules | `(tactic| walk_at "umul") => `(tactic| fail)
local macro_rules | `(tactic| walk_at "us1") => `(tactic| first
  | (with_reducible refine s_seq ?_) | (with_reducible refine s_asg ?_) | (with_reducible refine s_gn ?_) | (with_reducible refine s_ret ?_) | (with_reducible refine s_drop ?_) | (with_reducible refine s_if ?_) | (with_reducible refine s_next ?_)
  | (with_reducible refine s_brk ?_) | (with_reducible refine s_cont ?_)
  | ((with_reducible refine' s_var ?hv ?_); (case hv => exact rfl)) | (with_reducible refine s_c ?_) | (with_reducible refine s_op ?_) | (with_reducible refine s_un ?_) | (with_reducible refine s_cb ?_) | (with_reducible refine s_call ?_)
  | (with_reducible refine s_cons ?_) | (with_reducible refine s_nil ?_) | (with_reducible refine s_test ?_) | (with_reducible refine s_tB ?_) | (with_reducible refine s_not ?_) | (with_reducible refine s_and ?_) | (with_reducible refine s_or ?_)
  | (with_reducible refine s_andV ?_) | (with_reducible refine s_orV ?_) | (with_reducible refine s_notV ?_) | (with_reducible refine s_ifE ?_) | (with_reducible refine s_bl ?_) | (with_reducible refine s_iT ?_) | (with_reducible refine s_iF ?_)
  | (with_reducible refine s_I0 ?_) | (with_reducible refine s_U ?_) | (with_reducible refine s_addI ?_) | (with_reducible refine s_eqI ?_) | (with_reducible refine s_eqS ?_) | (with_reducible refine s_eqB ?_) | (with_reducible refine s_neI ?_) | (with_reducible refine s_neS ?_) | (with_reducible refine s_neB ?_)
  | (with_reducible refine s_tupE ?_) | (with_reducible refine s_lstE ?_))
local macro_rules | `(tactic| walk_at "us") => `(tactic| repeat walk_at "us1")
local macro_rules | `(tactic| walk_at "ulen") => `(tactic| (intro vs H Q E h; repeat' (first | (obtain ⟨e, _⟩ := h; subst e; rfl) | (subst h; rfl) | (refine Or.elim h (fun h => ?_) (fun h => ?_)) | (obtain ⟨_, h⟩ := h))))
local macro_rules | `(tactic| walk_at "uk") => `(tactic| (try dsimp only [cxOf, Cx.suite, Cx.tr]))
local macro_rules | `(tactic| walk_at "us2") => `(tactic| first
  | walk_at "us1" | (with_reducible refine s_dput ?_) | ((with_reducible refine' s_mod ?hc ?_); (case hc => first | decide | assumption | omega))
  | (with_reducible refine s_for ?_) | (with_reducible refine s_lc ?_) | (with_reducible refine s_itl ?_) | (with_reducible refine s_itt ?_) | (with_reducible refine s_its ?_) | (with_reducible refine s_itr ?_) | (with_reducible refine s_itr2 ?_) | (with_reducible refine s_disp ?_) | (with_reducible refine s_prn ?_) | (with_reducible refine s_prc ?_) | (with_reducible refine s_m1 ?_) | (with_reducible refine s_isS ?_) | (with_reducible refine s_um1 ?_) | (with_reducible refine s_isB ?_) | (with_reducible refine s_isn ?_) | (with_reducible refine s_notn ?_) | (with_reducible refine s_jd ?_) | (with_reducible refine s_jn ?_) | (with_reducible refine s_jc ?_) | (with_reducible refine s_fmt ?_) | (with_reducible refine s_gc ?_) | (with_reducible refine s_gnil ?_) | (with_reducible refine s_yes ?_)
  | ((with_reducible refine' s_pow ?hc ?_); (case hc => exact ⟨by decide, by decide, by decide⟩)) | (with_reducible refine s_int ?_) | (with_reducible refine s_intB ?_) | (with_reducible refine s_strS ?_) | (with_reducible refine s_abs ?_) | (with_reducible refine s_max ?_) | (with_reducible refine s_min ?_) | (with_reducible refine s_gcd ?_)
  | (with_reducible refine s_chain ?_) | (with_reducible refine s_sl ?_) | (with_reducible refine s_noP ?_) | (with_reducible refine s_part ?_) | (with_reducible refine s_exI ?_) 
  | ((with_reducible refine' s_mulI ?hc ?_); (case hc => first | exact Or.inl (Or.inr ⟨by decide, by decide⟩) | exact Or.inl (Or.inl ⟨by decide, by decide⟩) | exact Or.inl (Or.inl ⟨by omega, by omega⟩) | exact Or.inl (Or.inr ⟨by omega, by omega⟩) | walk_at "umul"))
  | ((with_reducible refine' s_ixT ?hc ?hd ?_); (case hc => assumption); (case hd => rfl))
  | ((with_reducible refine' s_lenL ?hc ?_); (case hc => first | assumption | exact SqL.of (by assumption))) | ((with_reducible refine' s_lenT ?hc ?_); (case hc => first | assumption | exact SqT.of (by assumption)))
  | ((with_reducible refine' s_divP ?hc ?hd ?_); (case hc => first | decide | assumption | omega); (case hd => first | decide +kernel | assumption)))
local macro_rules | `(tactic| walk_at "us") => `(tactic| repeat walk_at "us2")
local macro_rules | `(tactic| walk_at "uj") => `(tactic| ((walk_at "us"); with_reducible refine s_J ?_))
local macro_rules | `(tactic| walk_at "umul") => `(tactic| exact Or.inr (mulB (by assumption) (by assumption)))
theorem gcd_ne {n d : Int} (h : d ≠ 0) : 0 < Int.gcd n d := Int.gcd_pos_of_ne_zero_right n h
theorem gN_ne {n d : Int} (h : d ≠ 0) : gN n d ≠ 0 := by
  have := gcd_ne (n := n) h
  unfold gN
  split <;> omega
theorem gN_abs (n d : Int) : (gN n d).natAbs = Int.gcd n d := by
  unfold gN
  split <;> omega
theorem gN_log {n d : Int} (h : d ≠ 0) (b : Md d) : (gN n d).natAbs.log2 < 9000 := by
  rw [gN_abs]
  have : Int.gcd n d ≤ d.natAbs := Nat.le_of_dvd (by omega) (Int.natAbs_dvd_natAbs.mpr (Int.gcd_dvd_right n d))
  exact Nat.lt_trans (log_le (Nat.lt_of_le_of_lt this b) (by decide)) (by decide)
section
variable {P : Program} {w : World} {K : PySem.W.Frag} {mg : Str → Option Value} {base : Heap}
variable {cE cB cN : Addr}
theorem ok_l_ratio (T : Tp P K mg cE cB cN)
    (c_l_gcd : Cal P w K mg base 1 "_law_gcd" P_l_gcd [] (spGcd))
    {f : Addr} {fd : FuncData} {dvs : List V} (F : FunD K "_law_ratio" "_law_ratio" (defArgs s_l_ratio) (defBody s_l_ratio) (defScope s_l_ratio) dvs [] f fd) : FnG P w K mg base 2 f fd P_l_ratio (spLRatio) := by
  refine fng F sc_l_ratio (by walk_at "ulen") (fun cdv A outer s H vs Q E hr0 hg0 h => ?_)
  have hr : Rm 1 (A.deeper (envOfC "_law_ratio" (defScope s_l_ratio) s.heap.objs.size f cdv)) := ⟨hr0, hg0⟩
  have nd : N_l_ratio.Nodup := sc_l_ratio.nd
  obtain ⟨n, d, rfl, bn, bd, d0, k⟩ := h
  refine ⟨_, (pss_consJ (ps_set (i := 2) nd rfl (Or.inl rfl) (pe_ifExp (pt_cmpR op_gt (pv 1) pe_int (nomark _)) (pe_c (E := En) c_l_gcd (hr.mono (by decide)) paN (pa_cons (pv 0) (pa_cons (pv 1) pa_nil))) (pe_op op_sub pe_int (pe_c (E := En) c_l_gcd (hr.mono (by decide)) paN (pa_cons (pv 0) (pa_cons (pv 1) pa_nil))))))
    (pss_one (ps_ret (pe_tup (pa_cons (pe_op op_uDiv (pv 0) (pv 2)) (pa_cons (pe_op op_uDiv (pv 1) (pv 2)) pa_nil)))))), ?_⟩
  walk_at "uk"
  walk_at "uj"
  refine s_seqJ (fun σ' H' => H = H' ∧ σ' = (L2.start N_l_ratio [.int n, .int d]).set 2 (some (.int (gN n d)))) ?_ (fun R hR => ?_)
  · rintro σ' _ ⟨rfl, rfl⟩
    walk_at "us"
    refine s_divI ⟨gN_ne d0, gN_log d0 bd⟩ ?_
    walk_at "us"
    refine s_divI ⟨gN_ne d0, gN_log d0 bd⟩ ?_
    walk_at "us"
    refine s_szN (Nat.le_of_ble_eq_true rfl) fun p hp => ?_
    exact k p _ (exN hp) upd_same
  walk_at "us"
  refine s_ite (fun hd => ?_) (fun hd => ?_)
  · walk_at "us"
    refine ⟨n, d, rfl, ?_⟩
    walk_at "us"
    exact hR _ _ ⟨rfl, by unfold gN; rw [if_pos hd]⟩
  · walk_at "us"
    refine ⟨n, d, rfl, ?_⟩
    walk_at "us"
    exact hR _ _ ⟨rfl, by unfold gN; rw [if_neg hd, Int.zero_sub]⟩
end
end Lw

set_option Elab.async false
set_option linter.all false
set_option maxRecDepth 100000
set_option maxHeartbeats 4000000
namespace Lw
open PySem PySem.Spec L2 Uv
open PyProof.Rows hiding St
local macro_rules | `(tactic| walk_at "umul") => `(tactic| fail)
local macro_rules | `(tactic| walk_at "us1") => `(tactic| first
  | (with_reducible refine s_seq ?_) | (with_reducible refine s_asg ?_) | (with_reducible refine s_gn ?_) | (with_reducible refine s_ret ?_) | (with_reducible refine s_drop ?_) | (with_reducible refine s_if ?_) | (with_reducible refine s_next ?_)
  | (with_reducible refine s_brk ?_) | (with_reducible refine s_cont ?_)
  | ((with_reducible refine' s_var ?hv ?_); (case hv => exact rfl)) | (with_reducible refine s_c ?_) | (with_reducible refine s_op ?_) | (with_reducible refine s_un ?_) | (with_reducible refine s_cb ?_) | (with_reducible refine s_call ?_)
  | (with_reducible refine s_cons ?_) | (with_reducible refine s_nil ?_) | (with_reducible refine s_test ?_) | (with_reducible refine s_tB ?_) | (with_reducible refine s_not ?_) | (with_reducible refine s_and ?_) | (with_reducible refine s_or ?_)
  | (with_reducible refine s_andV ?_) | (with_reducible refine s_orV ?_) | (with_reducible refine s_notV ?_) | (with_reducible refine s_ifE ?_) | (with_reducible refine s_bl ?_) | (with_reducible refine s_iT ?_) | (with_reducible refine s_iF ?_)
  | (with_reducible refine s_I0 ?_) | (with_reducible refine s_U ?_) | (with_reducible refine s_addI ?_) | (with_reducible refine s_eqI ?_) | (with_reducible refine s_eqS ?_) | (with_reducible refine s_eqB ?_) | (with_reducible refine s_neI ?_) | (with_reducible refine s_neS ?_) | (with_reducible refine s_neB ?_)
  | (with_reducible refine s_tupE ?_) | (with_reducible refine s_lstE ?_))
local macro_rules | `(tactic| walk_at "us") => `(tactic| repeat walk_at "us1")
local macro_rules | `(tactic| walk_at "ulen") => `(tactic| (intro vs H Q E h; repeat' (first | (obtain ⟨e, _⟩ := h; subst e; rfl) | (subst h; rfl) | (refine Or.elim h (fun h => ?_) (fun h => ?_)) | (obtain ⟨_, h⟩ := h))))
local macro_rules | `(tactic| walk_at "uk") => `(tactic| (try dsimp only [cxOf, Cx.suite, Cx.tr]))
local macro_rules | `(tactic| walk_at "us2") => `(tactic| first
  | walk_at "us1" | (with_reducible refine s_dput ?_) | ((with_reducible refine' s_mod ?hc ?_); (case hc => first | decide | assumption | omega))
  | (with_reducible refine s_for ?_) | (with_reducible refine s_lc ?_) | (with_reducible refine s_itl ?_) | (with_reducible refine s_itt ?_) | (with_reducible refine s_its ?_) | (with_reducible refine s_itr ?_) | (with_reducible refine s_itr2 ?_) | (with_reducible refine s_disp ?_) | (with_reducible refine s_prn ?_) | (with_reducible refine s_prc ?_) | (with_reducible refine s_m1 ?_) | (with_reducible refine s_isS ?_) | (with_reducible refine s_um1 ?_) | (with_reducible refine s_isB ?_) | (with_reducible refine s_isn ?_) | (with_reducible refine s_notn ?_) | (with_reducible refine s_jd ?_) | (with_reducible refine s_jn ?_) | (with_reducible refine s_jc ?_) | (with_reducible refine s_fmt ?_) | (with_reducible refine s_gc ?_) | (with_reducible refine s_gnil ?_) | (with_reducible refine s_yes ?_)
  | ((with_reducible refine' s_pow ?hc ?_); (case hc => exact ⟨by decide, by decide, by decide⟩)) | (with_reducible refine s_int ?_) | (with_reducible refine s_intB ?_) | (with_reducible refine s_strS ?_) | (with_reducible refine s_abs ?_) | (with_reducible refine s_max ?_) | (with_reducible refine s_min ?_) | (with_reducible refine s_gcd ?_)
  | (with_reducible refine s_chain ?_) | (with_reducible refine s_sl ?_) | (with_reducible refine s_noP ?_) | (with_reducible refine s_part ?_) | (with_reducible refine s_exI ?_) 
  | ((with_reducible refine' s_mulI ?hc ?_); (case hc => first | exact Or.inl (Or.inr ⟨by decide, by decide⟩) | exact Or.inl (Or.inl ⟨by decide, by decide⟩) | exact Or.inl (Or.inl ⟨by omega, by omega⟩) | exact Or.inl (Or.inr ⟨by omega, by omega⟩) | walk_at "umul"))
  | ((with_reducible refine' s_ixT ?hc ?hd ?_); (case hc => assumption); (case hd => rfl))
  | ((with_reducible refine' s_lenL ?hc ?_); (case hc => first | assumption | exact SqL.of (by assumption))) | ((with_reducible refine' s_lenT ?hc ?_); (case hc => first | assumption | exact SqT.of (by assumption)))
  | ((with_reducible refine' s_divP ?hc ?hd ?_); (case hc => first | decide | assumption | omega); (case hd => first | decide +kernel | assumption)))
local macro_rules | `(tactic| walk_at "us") => `(tactic| repeat walk_at "us2")
local macro_rules | `(tactic| walk_at "uj") => `(tactic| ((walk_at "us"); with_reducible refine s_J ?_))
local macro_rules | `(tactic| walk_at "umul") => `(tactic| exact Or.inr (mulB (by assumption) (by assumption)))
section
variable {P : Program} {w : World} {K : PySem.W.Frag} {mg : Str → Option Value} {base : Heap}
variable {cE cB cN : Addr}
theorem ok_l_plus (T : Tp P K mg cE cB cN)
    (c_l_ratio : Cal P w K mg base 2 "_law_ratio" P_l_ratio [] (spLRatio))
    {f : Addr} {fd : FuncData} {dvs : List V} (F : FunD K "_law_plus" "_law_plus" (defArgs s_l_plus) (defBody s_l_plus) (defScope s_l_plus) dvs [] f fd) : FnG P w K mg base 3 f fd P_l_plus (spPlus K) := by
  refine fng F sc_l_plus (by walk_at "ulen") (fun cdv A outer s H vs Q E hr0 hg0 h => ?_)
  have hr : Rm 2 (A.deeper (envOfC "_law_plus" (defScope s_l_plus) s.heap.objs.size f cdv)) := ⟨hr0, hg0⟩
  have nd : N_l_plus.Nodup := sc_l_plus.nd
  obtain ⟨v, w, n1, d1, n2, d2, rfl, ⟨p1, rfl, h1⟩, ⟨p2, rfl, h2⟩, L1, L2, _, k⟩ := h
  obtain ⟨x1, x2, x3, x4⟩ : n1.natAbs ≤ big ∧ d1.natAbs ≤ big ∧ n2.natAbs ≤ big ∧ d2.natAbs ≤ big := ⟨L1.bn, L1.bd, L2.bn, L2.bd⟩
  refine ⟨_, (pss_one (ps_ret (pe_c (E := En) c_l_ratio (hr.mono (by decide)) paN (pa_cons (pe_op op_uAdd (pe_op op_uMul (pe_ix ix_seq (pv 0) pe_int (fun _ _ => rfl)) (pe_ix ix_seq (pv 1) pe_int (fun _ _ => rfl))) (pe_op op_uMul (pe_ix ix_seq (pv 1) pe_int (fun _ _ => rfl)) (pe_ix ix_seq (pv 0) pe_int (fun _ _ => rfl)))) (pa_cons (pe_op op_uMul (pe_ix ix_seq (pv 0) pe_int (fun _ _ => rfl)) (pe_ix ix_seq (pv 1) pe_int (fun _ _ => rfl))) pa_nil))))), ?_⟩
  walk_at "uk"
  walk_at "us"
  exact ⟨_, _, rfl, md_add L1.bn L2.bd L2.bn L1.bd, md_mul L1.bd L2.bd, ne_mul L1.pos L2.pos, k⟩
end
end Lw

set_option Elab.async false
set_option linter.all false
set_option maxRecDepth 100000
set_option maxHeartbeats 4000000
namespace Lw
open PySem PySem.Spec L2 Uv
open PyProof.Rows hiding St
local macro_rules | `(tactic| walk_at "umul") => `(tactic| fail)
local macro_rules | `(tactic| walk_at "us1") => `(tactic| first
  | (with_reducible refine s_seq ?_) | (with_reducible refine s_asg ?_) | (with_reducible refine s_gn ?_) | (with_reducible refine s_ret ?_) | (with_reducible refine s_drop ?_) | (with_reducible refine s_if ?_) | (with_reducible refine s_next ?_)
  | (with_reducible refine s_brk ?_) | (with_reducible refine s_cont ?_)
  | ((with_reducible refine' s_var ?hv ?_); (case hv => exact rfl)) | (with_reducible refine s_c ?_) | (with_reducible refine s_op ?_) | (with_reducible refine s_un ?_) | (with_reducible refine s_cb ?_) | (with_reducible refine s_call ?_)
  | (with_reducible refine s_cons ?_) | (with_reducible refine s_nil ?_) | (with_reducible refine s_test ?_) | (with_reducible refine s_tB ?_) | (with_reducible refine s_not ?_) | (with_reducible refine s_and ?_) | (with_reducible refine s_or ?_)
  | (with_reducible refine s_andV ?_) | (with_reducible refine s_orV ?_) | (with_reducible refine s_notV ?_) | (with_reducible refine s_ifE ?_) | (with_reducible refine s_bl ?_) | (with_reducible refine s_iT ?_) | (with_reducible refine s_iF ?_)
  | (with_reducible refine s_I0 ?_) | (with_reducible refine s_U ?_) | (with_reducible refine s_addI ?_) | (with_reducible refine s_eqI ?_) | (with_reducible refine s_eqS ?_) | (with_reducible refine s_eqB ?_) | (with_reducible refine s_neI ?_) | (with_reducible refine s_neS ?_) | (with_reducible refine s_neB ?_)
  | (with_reducible refine s_tupE ?_) | (with_reducible refine s_lstE ?_))
local macro_rules | `(tactic| walk_at "us") => `(tactic| repeat walk_at "us1")
local macro_rules | `(tactic| walk_at "ulen") => `(tactic| (intro vs H Q E h; repeat' (first | (obtain ⟨e, _⟩ := h; subst e; rfl) | (subst h; rfl) | (refine Or.elim h (fun h => ?_) (fun h => ?_)) | (obtain ⟨_, h⟩ := h))))
local macro_rules | `(tactic| walk_at "uk") => `(tactic| (try dsimp only [cxOf, Cx.suite, Cx.tr]))
local macro_rules | `(tactic| walk_at "us2") => `(tactic| first
  | walk_at "us1" | (with_reducible refine s_dput ?_) | ((with_reducible refine' s_mod ?hc ?_); (case hc => first | decide | assumption | omega))
  | (with_reducible refine s_for ?_) | (with_reducible refine s_lc ?_) | (with_reducible refine s_itl ?_) | (with_reducible refine s_itt ?_) | (with_reducible refine s_its ?_) | (with_reducible refine s_itr ?_) | (with_reducible refine s_itr2 ?_) | (with_reducible refine s_disp ?_) | (with_reducible refine s_prn ?_) | (with_reducible refine s_prc ?_) | (with_reducible refine s_m1 ?_) | (with_reducible refine s_isS ?_) | (with_reducible refine s_um1 ?_) | (with_reducible refine s_isB ?_) | (with_reducible refine s_isn ?_) | (with_reducible refine s_notn ?_) | (with_reducible refine s_jd ?_) | (with_reducible refine s_jn ?_) | (with_reducible refine s_jc ?_) | (with_reducible refine s_fmt ?_) | (with_reducible refine s_gc ?_) | (with_reducible refine s_gnil ?_) | (with_reducible refine s_yes ?_)
  | ((with_reducible refine' s_pow ?hc ?_); (case hc => exact ⟨by decide, by decide, by decide⟩)) | (with_reducible refine s_int ?_) | (with_reducible refine s_intB ?_) | (with_reducible refine s_strS ?_) | (with_reducible refine s_abs ?_) | (with_reducible refine s_max ?_) | (with_reducible refine s_min ?_) | (with_reducible refine s_gcd ?_)
  | (with_reducible refine s_chain ?_) | (with_reducible refine s_sl ?_) | (with_reducible refine s_noP ?_) | (with_reducible refine s_part ?_) | (with_reducible refine s_exI ?_) 
  | ((with_reducible refine' s_mulI ?hc ?_); (case hc => first | exact Or.inl (Or.inr ⟨by decide, by decide⟩) | exact Or.inl (Or.inl ⟨by decide, by decide⟩) | exact Or.inl (Or.inl ⟨by omega, by omega⟩) | exact Or.inl (Or.inr ⟨by omega, by omega⟩) | walk_at "umul"))
  | ((with_reducible refine' s_ixT ?hc ?hd ?_); (case hc => assumption); (case hd => rfl))
  | ((with_reducible refine' s_lenL ?hc ?_); (case hc => first | assumption | exact SqL.of (by assumption))) | ((with_reducible refine' s_lenT ?hc ?_); (case hc => first | assumption | exact SqT.of (by assumption)))
  | ((with_reducible refine' s_divP ?hc ?hd ?_); (case hc => first | decide | assumption | omega); (case hd => first | decide +kernel | assumption)))
local macro_rules | `(tactic| walk_at "us") => `(tactic| repeat walk_at "us2")
local macro_rules | `(tactic| walk_at "uj") => `(tactic| ((walk_at "us"); with_reducible refine s_J ?_))
local macro_rules | `(tactic| walk_at "umul") => `(tactic| exact Or.inr (mulB (by assumption) (by assumption)))
section
variable {P : Program} {w : World} {K : PySem.W.Frag} {mg : Str → Option Value} {base : Heap}
variable {cE cB cN : Addr}
theorem ok_l_minus (T : Tp P K mg cE cB cN)
    (c_l_ratio : Cal P w K mg base 2 "_law_ratio" P_l_ratio [] (spLRatio))
    {f : Addr} {fd : FuncData} {dvs : List V} (F : FunD K "_law_minus" "_law_minus" (defArgs s_l_minus) (defBody s_l_minus) (defScope s_l_minus) dvs [] f fd) : FnG P w K mg base 3 f fd P_l_minus (spMinus K) := by
  refine fng F sc_l_minus (by walk_at "ulen") (fun cdv A outer s H vs Q E hr0 hg0 h => ?_)
  have hr : Rm 2 (A.deeper (envOfC "_law_minus" (defScope s_l_minus) s.heap.objs.size f cdv)) := ⟨hr0, hg0⟩
  have nd : N_l_minus.Nodup := sc_l_minus.nd
  obtain ⟨v, w, n1, d1, n2, d2, rfl, ⟨p1, rfl, h1⟩, ⟨p2, rfl, h2⟩, L1, L2, _, k⟩ := h
  obtain ⟨x1, x2, x3, x4⟩ : n1.natAbs ≤ big ∧ d1.natAbs ≤ big ∧ n2.natAbs ≤ big ∧ d2.natAbs ≤ big := ⟨L1.bn, L1.bd, L2.bn, L2.bd⟩
  refine ⟨_, (pss_one (ps_ret (pe_c (E := En) c_l_ratio (hr.mono (by decide)) paN (pa_cons (pe_op op_sub (pe_op op_uMul (pe_ix ix_seq (pv 0) pe_int (fun _ _ => rfl)) (pe_ix ix_seq (pv 1) pe_int (fun _ _ => rfl))) (pe_op op_uMul (pe_ix ix_seq (pv 1) pe_int (fun _ _ => rfl)) (pe_ix ix_seq (pv 0) pe_int (fun _ _ => rfl)))) (pa_cons (pe_op op_uMul (pe_ix ix_seq (pv 0) pe_int (fun _ _ => rfl)) (pe_ix ix_seq (pv 1) pe_int (fun _ _ => rfl))) pa_nil))))), ?_⟩
  walk_at "uk"
  walk_at "us"
  exact ⟨_, _, rfl, md_sub L1.bn L2.bd L2.bn L1.bd, md_mul L1.bd L2.bd, ne_mul L1.pos L2.pos, k⟩
end
end Lw

set_option Elab.async false
set_option linter.all false
set_option maxRecDepth 100000
set_option maxHeartbeats 4000000
namespace Lw
open PySem PySem.Spec L2 Uv
open PyProof.Rows hiding St
local macro_rules | `(tactic| walk_at "umul") => `(tactic| fail)
local macro_rules | `(tactic| walk_at "us1") => `(tactic| first
  | (with_reducible refine s_seq ?_) | (with_reducible refine s_asg ?_) | (with_reducible refine s_gn ?_) | (with_reducible refine s_ret ?_) | (with_reducible refine s_drop ?_) | (with_reducible refine s_if ?_) | (with_reducible refine s_next ?_)
  | (with_reducible refine s_brk ?_) | (with_reducible refine s_cont ?_)
  | ((with_reducible refine' s_var ?hv ?_); (case hv => exact rfl)) | (with_reducible refine s_c ?_) | (with_reducible refine s_op ?_) | (with_reducible refine s_un ?_) | (with_reducible refine s_cb ?_) | (with_reducible refine s_call ?_)
  | (with_reducible refine s_cons ?_) | (with_reducible refine s_nil ?_) | (with_reducible refine s_test ?_) | (with_reducible refine s_tB ?_) | (with_reducible refine s_not ?_) | (with_reducible refine s_and ?_) | (with_reducible refine s_or ?_)
  | (with_reducible refine s_andV ?_) | (with_reducible refine s_orV ?_) | (with_reducible refine s_notV ?_) | (with_reducible refine s_ifE ?_) | (with_reducible refine s_bl ?_) | (with_reducible refine s_iT ?_) | (with_reducible refine s_iF ?_)
  | (with_reducible refine s_I0 ?_) | (with_reducible refine s_U ?_) | (with_reducible refine s_addI ?_) | (with_reducible refine s_eqI ?_) | (with_reducible refine s_eqS ?_) | (with_reducible refine s_eqB ?_) | (with_reducible refine s_neI ?_) | (with_reducible refine s_neS ?_) | (with_reducible refine s_neB ?_)
  | (with_reducible refine s_tupE ?_) | (with_reducible refine s_lstE ?_))
local macro_rules | `(tactic| walk_at "us") => `(tactic| repeat walk_at "us1")
local macro_rules | `(tactic| walk_at "ulen") => `(tactic| (intro vs H Q E h; repeat' (first | (obtain ⟨e, _⟩ := h; subst e; rfl) | (subst h; rfl) | (refine Or.elim h (fun h => ?_) (fun h => ?_)) | (obtain ⟨_, h⟩ := h))))
local macro_rules | `(tactic| walk_at "uk") => `(tactic| (try dsimp only [cxOf, Cx.suite, Cx.tr]))
local macro_rules | `(tactic| walk_at "us2") => `(tactic| first
  | walk_at "us1" | (with_reducible refine s_dput ?_) | ((with_reducible refine' s_mod ?hc ?_); (case hc => first | decide | assumption | omega))
  | (with_reducible refine s_for ?_) | (with_reducible refine s_lc ?_) | (with_reducible refine s_itl ?_) | (with_reducible refine s_itt ?_) | (with_reducible refine s_its ?_) | (with_reducible refine s_itr ?_) | (with_reducible refine s_itr2 ?_) | (with_reducible refine s_disp ?_) | (with_reducible refine s_prn ?_) | (with_reducible refine s_prc ?_) | (with_reducible refine s_m1 ?_) | (with_reducible refine s_isS ?_) | (with_reducible refine s_um1 ?_) | (with_reducible refine s_isB ?_) | (with_reducible refine s_isn ?_) | (with_reducible refine s_notn ?_) | (with_reducible refine s_jd ?_) | (with_reducible refine s_jn ?_) | (with_reducible refine s_jc ?_) | (with_reducible refine s_fmt ?_) | (with_reducible refine s_gc ?_) | (with_reducible refine s_gnil ?_) | (with_reducible refine s_yes ?_)
  | ((with_reducible refine' s_pow ?hc ?_); (case hc => exact ⟨by decide, by decide, by decide⟩)) | (with_reducible refine s_int ?_) | (with_reducible refine s_intB ?_) | (with_reducible refine s_strS ?_) | (with_reducible refine s_abs ?_) | (with_reducible refine s_max ?_) | (with_reducible refine s_min ?_) | (with_reducible refine s_gcd ?_)
  | (with_reducible refine s_chain ?_) | (with_reducible refine s_sl ?_) | (with_reducible refine s_noP ?_) | (with_reducible refine s_part ?_) | (with_reducible refine s_exI ?_) 
  | ((with_reducible refine' s_mulI ?hc ?_); (case hc => first | exact Or.inl (Or.inr ⟨by decide, by decide⟩) | exact Or.inl (Or.inl ⟨by decide, by decide⟩) | exact Or.inl (Or.inl ⟨by omega, by omega⟩) | exact Or.inl (Or.inr ⟨by omega, by omega⟩) | walk_at "umul"))
  | ((with_reducible refine' s_ixT ?hc ?hd ?_); (case hc => assumption); (case hd => rfl))
  | ((with_reducible refine' s_lenL ?hc ?_); (case hc => first | assumption | exact SqL.of (by assumption))) | ((with_reducible refine' s_lenT ?hc ?_); (case hc => first | assumption | exact SqT.of (by assumption)))
  | ((with_reducible refine' s_divP ?hc ?hd ?_); (case hc => first | decide | assumption | omega); (case hd => first | decide +kernel | assumption)))
local macro_rules | `(tactic| walk_at "us") => `(tactic| repeat walk_at "us2")
local macro_rules | `(tactic| walk_at "uj") => `(tactic| ((walk_at "us"); with_reducible refine s_J ?_))
local macro_rules | `(tactic| walk_at "umul") => `(tactic| exact Or.inr (mulB (by assumption) (by assumption)))
section
variable {P : Program} {w : World} {K : PySem.W.Frag} {mg : Str → Option Value} {base : Heap}
variable {cE cB cN : Addr}
theorem ok_l_times (T : Tp P K mg cE cB cN)
    (c_l_ratio : Cal P w K mg base 2 "_law_ratio" P_l_ratio [] (spLRatio))
    {f : Addr} {fd : FuncData} {dvs : List V} (F : FunD K "_law_times" "_law_times" (defArgs s_l_times) (defBody s_l_times) (defScope s_l_times) dvs [] f fd) : FnG P w K mg base 3 f fd P_l_times (spTimes K) := by
  refine fng F sc_l_times (by walk_at "ulen") (fun cdv A outer s H vs Q E hr0 hg0 h => ?_)
  have hr : Rm 2 (A.deeper (envOfC "_law_times" (defScope s_l_times) s.heap.objs.size f cdv)) := ⟨hr0, hg0⟩
  have nd : N_l_times.Nodup := sc_l_times.nd
  obtain ⟨v, w, n1, d1, n2, d2, rfl, ⟨p1, rfl, h1⟩, ⟨p2, rfl, h2⟩, L1, L2, _, k⟩ := h
  obtain ⟨x1, x2, x3, x4⟩ : n1.natAbs ≤ big ∧ d1.natAbs ≤ big ∧ n2.natAbs ≤ big ∧ d2.natAbs ≤ big := ⟨L1.bn, L1.bd, L2.bn, L2.bd⟩
  refine ⟨_, (pss_one (ps_ret (pe_c (E := En) c_l_ratio (hr.mono (by decide)) paN (pa_cons (pe_op op_uMul (pe_ix ix_seq (pv 0) pe_int (fun _ _ => rfl)) (pe_ix ix_seq (pv 1) pe_int (fun _ _ => rfl))) (pa_cons (pe_op op_uMul (pe_ix ix_seq (pv 0) pe_int (fun _ _ => rfl)) (pe_ix ix_seq (pv 1) pe_int (fun _ _ => rfl))) pa_nil))))), ?_⟩
  walk_at "uk"
  walk_at "us"
  exact ⟨_, _, rfl, md_mul L1.bn L2.bn, md_mul L1.bd L2.bd, ne_mul L1.pos L2.pos, k⟩
end
end Lw

set_option Elab.async false
set_option linter.all false
set_option maxRecDepth 100000
set_option maxHeartbeats 4000000
namespace Lw
open PySem PySem.Spec L2 Uv
open PyProof.Rows hiding St
local macro_rules | `(tactic| walk_at "umul") => `(tactic| fail)
local macro_rules | `(tactic| walk_at "us1") => `(tactic| first
  | (with_reducible refine s_seq ?_) | (with_reducible refine s_asg ?_) | (with_reducible refine s_gn ?_) | (with_reducible refine s_ret ?_) | (with_reducible refine s_drop ?_) | (with_reducible refine s_if ?_) | (with_reducible refine s_next ?_)
  | (with_reducible refine s_brk ?_) | (with_reducible refine s_cont ?_)
  | ((with_reducible refine' s_var ?hv ?_); (case hv => exact rfl)) | (with_reducible refine s_c ?_) | (with_reducible refine s_op ?_) | (with_reducible refine s_un ?_) | (with_reducible refine s_cb ?_) | (with_reducible refine s_call ?_)
  | (with_reducible refine s_cons ?_) | (with_reducible refine s_nil ?_) | (with_reducible refine s_test ?_) | (with_reducible refine s_tB ?_) | (with_reducible refine s_not ?_) | (with_reducible refine s_and ?_) | (with_reducible refine s_or ?_)
  | (with_reducible refine s_andV ?_) | (with_reducible refine s_orV ?_) | (with_reducible refine s_notV ?_) | (with_reducible refine s_ifE ?_) | (with_reducible refine s_bl ?_) | (with_reducible refine s_iT ?_) | (with_reducible refine s_iF ?_)
  | (with_reducible refine s_I0 ?_) | (with_reducible refine s_U ?_) | (with_reducible refine s_addI ?_) | (with_reducible refine s_eqI ?_) | (with_reducible refine s_eqS ?_) | (with_reducible refine s_eqB ?_) | (with_reducible refine s_neI ?_) | (with_reducible refine s_neS ?_) | (with_reducible refine s_neB ?_)
  | (with_reducible refine s_tupE ?_) | (with_reducible refine s_lstE ?_))
local macro_rules | `(tactic| walk_at "us") => `(tactic| repeat walk_at "us1")
local macro_rules | `(tactic| walk_at "ulen") => `(tactic| (intro vs H Q E h; repeat' (first | (obtain ⟨e, _⟩ := h; subst e; rfl) | (subst h; rfl) | (refine Or.elim h (fun h => ?_) (fun h => ?_)) | (obtain ⟨_, h⟩ := h))))
local macro_rules | `(tactic| walk_at "uk") => `(tactic| (try dsimp only [cxOf, Cx.suite, Cx.tr]))
local macro_rules | `(tactic| walk_at "us2") => `(tactic| first
  | walk_at "us1" | (with_reducible refine s_dput ?_) | ((with_reducible refine' s_mod ?hc ?_); (case hc => first | decide | assumption | omega))
  | (with_reducible refine s_for ?_) | (with_reducible refine s_lc ?_) | (with_reducible refine s_itl ?_) | (with_reducible refine s_itt ?_) | (with_reducible refine s_its ?_) | (with_reducible refine s_itr ?_) | (with_reducible refine s_itr2 ?_) | (with_reducible refine s_disp ?_) | (with_reducible refine s_prn ?_) | (with_reducible refine s_prc ?_) | (with_reducible refine s_m1 ?_) | (with_reducible refine s_isS ?_) | (with_reducible refine s_um1 ?_) | (with_reducible refine s_isB ?_) | (with_reducible refine s_isn ?_) | (with_reducible refine s_notn ?_) | (with_reducible refine s_jd ?_) | (with_reducible refine s_jn ?_) | (with_reducible refine s_jc ?_) | (with_reducible refine s_fmt ?_) | (with_reducible refine s_gc ?_) | (with_reducible refine s_gnil ?_) | (with_reducible refine s_yes ?_)
  | ((with_reducible refine' s_pow ?hc ?_); (case hc => exact ⟨by decide, by decide, by decide⟩)) | (with_reducible refine s_int ?_) | (with_reducible refine s_intB ?_) | (with_reducible refine s_strS ?_) | (with_reducible refine s_abs ?_) | (with_reducible refine s_max ?_) | (with_reducible refine s_min ?_) | (with_reducible refine s_gcd ?_)
  | (with_reducible refine s_chain ?_) | (with_reducible refine s_sl ?_) | (with_reducible refine s_noP ?_) | (with_reducible refine s_part ?_) | (with_reducible refine s_exI ?_) 
  | ((with_reducible refine' s_mulI ?hc ?_); (case hc => first | exact Or.inl (Or.inr ⟨by decide, by decide⟩) | exact Or.inl (Or.inl ⟨by decide, by decide⟩) | exact Or.inl (Or.inl ⟨by omega, by omega⟩) | exact Or.inl (Or.inr ⟨by omega, by omega⟩) | walk_at "umul"))
  | ((with_reducible refine' s_ixT ?hc ?hd ?_); (case hc => assumption); (case hd => rfl))
  | ((with_reducible refine' s_lenL ?hc ?_); (case hc => first | assumption | exact SqL.of (by assumption))) | ((with_reducible refine' s_lenT ?hc ?_); (case hc => first | assumption | exact SqT.of (by assumption)))
  | ((with_reducible refine' s_divP ?hc ?hd ?_); (case hc => first | decide | assumption | omega); (case hd => first | decide +kernel | assumption)))
local macro_rules | `(tactic| walk_at "us") => `(tactic| repeat walk_at "us2")
local macro_rules | `(tactic| walk_at "uj") => `(tactic| ((walk_at "us"); with_reducible refine s_J ?_))
local macro_rules | `(tactic| walk_at "umul") => `(tactic| exact Or.inr (mulB (by assumption) (by assumption)))
section
variable {P : Program} {w : World} {K : PySem.W.Frag} {mg : Str → Option Value} {base : Heap}
variable {cE cB cN : Addr}
theorem ok_l_over (T : Tp P K mg cE cB cN)
    (c_l_ratio : Cal P w K mg base 2 "_law_ratio" P_l_ratio [] (spLRatio))
    {f : Addr} {fd : FuncData} {dvs : List V} (F : FunD K "_law_over" "_law_over" (defArgs s_l_over) (defBody s_l_over) (defScope s_l_over) dvs [] f fd) : FnG P w K mg base 3 f fd P_l_over (spLOver K) := by
  refine fng F sc_l_over (by walk_at "ulen") (fun cdv A outer s H vs Q E hr0 hg0 h => ?_)
  have hr : Rm 2 (A.deeper (envOfC "_law_over" (defScope s_l_over) s.heap.objs.size f cdv)) := ⟨hr0, hg0⟩
  have nd : N_l_over.Nodup := sc_l_over.nd
  obtain ⟨v, w, n1, d1, n2, d2, rfl, ⟨p1, rfl, h1⟩, ⟨p2, rfl, h2⟩, L1, L2, c, k⟩ := h
  obtain ⟨x1, x2, x3, x4⟩ : n1.natAbs ≤ big ∧ d1.natAbs ≤ big ∧ n2.natAbs ≤ big ∧ d2.natAbs ≤ big := ⟨L1.bn, L1.bd, L2.bn, L2.bd⟩
  refine ⟨_, (pss_one (ps_ret (pe_c (E := En) c_l_ratio (hr.mono (by decide)) paN (pa_cons (pe_op op_uMul (pe_ix ix_seq (pv 0) pe_int (fun _ _ => rfl)) (pe_ix ix_seq (pv 1) pe_int (fun _ _ => rfl))) (pa_cons (pe_op op_uMul (pe_ix ix_seq (pv 0) pe_int (fun _ _ => rfl)) (pe_ix ix_seq (pv 1) pe_int (fun _ _ => rfl))) pa_nil))))), ?_⟩
  walk_at "uk"
  walk_at "us"
  exact ⟨_, _, rfl, md_mul L1.bn L2.bd, md_mul L1.bd L2.bn, Int.mul_ne_zero (Int.ne_of_gt L1.pos) c, k⟩
end
end Lw

set_option Elab.async false
set_option linter.all false
set_option maxRecDepth 100000
set_option maxHeartbeats 4000000
namespace Lw
open PySem PySem.Spec L2 Uv
open PyProof.Rows hiding St
local macro_rules | `(tactic| walk_at "umul") => `(tactic| fail)
local macro_rules | `(tactic| walk_at "us1") => `(tactic| first
  | (with_reducible refine s_seq ?_) | (with_reducible refine s_asg ?_) | (with_reducible refine s_gn ?_) | (with_reducible refine s_ret ?_) | (with_reducible refine s_drop ?_) | (with_reducible refine s_if ?_) | (with_reducible refine s_next ?_)
  | (with_reducible refine s_brk ?_) | (with_reducible refine s_cont ?_)
  | ((with_reducible refine' s_var ?hv ?_); (case hv => exact rfl)) | (with_reducible refine s_c ?_) | (with_reducible refine s_op ?_) | (with_reducible refine s_un ?_) | (with_reducible refine s_cb ?_) | (with_reducible refine s_call ?_)
  | (with_reducible refine s_cons ?_) | (with_reducible refine s_nil ?_) | (with_reducible refine s_test ?_) | (with_reducible refine s_tB ?_) | (with_reducible refine s_not ?_) | (with_reducible refine s_and ?_) | (with_reducible refine s_or ?_)
  | (with_reducible refine s_andV ?_) | (with_reducible refine s_orV ?_) | (with_reducible refine s_notV ?_) | (with_reducible refine s_ifE ?_) | (with_reducible refine s_bl ?_) | (with_reducible refine s_iT ?_) | (with_reducible refine s_iF ?_)
  | (with_reducible refine s_I0 ?_) | (with_reducible refine s_U ?_) | (with_reducible refine s_addI ?_) | (with_reducible refine s_eqI ?_) | (with_reducible refine s_eqS ?_) | (with_reducible refine s_eqB ?_) | (with_reducible refine s_neI ?_) | (with_reducible refine s_neS ?_) | (with_reducible refine s_neB ?_)
  | (with_reducible refine s_tupE ?_) | (with_reducible refine s_lstE ?_))
local macro_rules | `(tactic| walk_at "us") => `(tactic| repeat walk_at "us1")
local macro_rules | `(tactic| walk_at "ulen") => `(tactic| (intro vs H Q E h; repeat' (first | (obtain ⟨e, _⟩ := h; subst e; rfl) | (subst h; rfl) | (refine Or.elim h (fun h => ?_) (fun h => ?_)) | (obtain ⟨_, h⟩ := h))))
local macro_rules | `(tactic| walk_at "uk") => `(tactic| (try dsimp only [cxOf, Cx.suite, Cx.tr]))
local macro_rules | `(tactic| walk_at "us2") => `(tactic| first
  | walk_at "us1" | (with_reducible refine s_dput ?_) | ((with_reducible refine' s_mod ?hc ?_); (case hc => first | decide | assumption | omega))
  | (with_reducible refine s_for ?_) | (with_reducible refine s_lc ?_) | (with_reducible refine s_itl ?_) | (with_reducible refine s_itt ?_) | (with_reducible refine s_its ?_) | (with_reducible refine s_itr ?_) | (with_reducible refine s_itr2 ?_) | (with_reducible refine s_disp ?_) | (with_reducible refine s_prn ?_) | (with_reducible refine s_prc ?_) | (with_reducible refine s_m1 ?_) | (with_reducible refine s_isS ?_) | (with_reducible refine s_um1 ?_) | (with_reducible refine s_isB ?_) | (with_reducible refine s_isn ?_) | (with_reducible refine s_notn ?_) | (with_reducible refine s_jd ?_) | (with_reducible refine s_jn ?_) | (with_reducible refine s_jc ?_) | (with_reducible refine s_fmt ?_) | (with_reducible refine s_gc ?_) | (with_reducible refine s_gnil ?_) | (with_reducible refine s_yes ?_)
  | ((with_reducible refine' s_pow ?hc ?_); (case hc => exact ⟨by decide, by decide, by decide⟩)) | (with_reducible refine s_int ?_) | (with_reducible refine s_intB ?_) | (with_reducible refine s_strS ?_) | (with_reducible refine s_abs ?_) | (with_reducible refine s_max ?_) | (with_reducible refine s_min ?_) | (with_reducible refine s_gcd ?_)
  | (with_reducible refine s_chain ?_) | (with_reducible refine s_sl ?_) | (with_reducible refine s_noP ?_) | (with_reducible refine s_part ?_) | (with_reducible refine s_exI ?_) 
  | ((with_reducible refine' s_mulI ?hc ?_); (case hc => first | exact Or.inl (Or.inr ⟨by decide, by decide⟩) | exact Or.inl (Or.inl ⟨by decide, by decide⟩) | exact Or.inl (Or.inl ⟨by omega, by omega⟩) | exact Or.inl (Or.inr ⟨by omega, by omega⟩) | walk_at "umul"))
  | ((with_reducible refine' s_ixT ?hc ?hd ?_); (case hc => assumption); (case hd => rfl))
  | ((with_reducible refine' s_lenL ?hc ?_); (case hc => first | assumption | exact SqL.of (by assumption))) | ((with_reducible refine' s_lenT ?hc ?_); (case hc => first | assumption | exact SqT.of (by assumption)))
  | ((with_reducible refine' s_divP ?hc ?hd ?_); (case hc => first | decide | assumption | omega); (case hd => first | decide +kernel | assumption)))
local macro_rules | `(tactic| walk_at "us") => `(tactic| repeat walk_at "us2")
local macro_rules | `(tactic| walk_at "uj") => `(tactic| ((walk_at "us"); with_reducible refine s_J ?_))
local macro_rules | `(tactic| walk_at "umul") => `(tactic| exact Or.inr (mulB (by assumption) (by assumption)))
def manys : List V := [.int 2, .int 4, .int 10, .int 10, .int 100, .int 1000, .int (10 ^ Int.toNat 9), .int (10 ^ Int.toNat 9), .int (10 ^ Int.toNat 9), .int (10 ^ Int.toNat 9)]
theorem many_ix {r : Int} (h0 : 0 ≤ r) (h1 : r < 10) : ∃ m, atI manys r = some (.int m) ∧ 0 < m ∧ m ≤ 10 ^ 9 := by
  obtain ⟨j, rfl⟩ := Int.eq_ofNat_of_zero_le h0
  rcases (by omega : j = 0 ∨ j = 1 ∨ j = 2 ∨ j = 3 ∨ j = 4 ∨ j = 5 ∨ j = 6 ∨ j = 7 ∨ j = 8 ∨ j = 9) with rfl | rfl | rfl | rfl | rfl | rfl | rfl | rfl | rfl | rfl <;> exact ⟨_, rfl, by decide, by decide⟩
def c60 : Nat := 10 ^ 60
def c399 : Nat := 10 ^ 399
def c400 : Nat := 10 ^ 400 - 1
theorem c_le : c60 ≤ c400 ∧ c400 ≤ big ∧ c399 + c60 ≤ big ∧ 10 ^ 9 * 10 ^ 40 + 10 ^ 12 ≤ c60 ∧ 10 ^ 9 ≤ c60 := by decide +kernel
theorem dv_rep (c : Nat) : ∀ (n acc : Nat), (List.replicate n c).foldl (fun acc c => acc * 10 + (c - 48)) acc * 9 + (c - 48) = (acc * 9 + (c - 48)) * 10 ^ n
  | 0, acc => by simp
  | n + 1, acc => by
    rw [List.replicate_succ, List.foldl_cons, dv_rep c n, Nat.pow_succ, Nat.mul_comm (10 ^ n) 10, ← Nat.mul_assoc]
    congr 1
    omega
theorem nine : PySem.intText? (Txt.mul "9" 400) = some (c400 : Int) := by
  have e : Txt.mul "9" 400 = SX.S (List.replicate 400 57) := TL.ext_tl (by decide +kernel)
  rw [e, SX.int_S (by decide +kernel) (by decide +kernel) (by decide +kernel)]
  have v : NumText.digitsVal (List.replicate 400 57) = c400 := by
    have h := dv_rep 57 400 0
    have : c400 * 9 + 9 = 9 * 10 ^ 400 := by decide +kernel
    unfold NumText.digitsVal
    simp only [Nat.zero_mul, Nat.zero_add, Nat.reduceSub] at h
    omega
  rw [v]
theorem onez : PySem.intText? ("1" ++ Txt.mul "0" 399) = some (c399 : Int) := by
  have e : ("1" : Str) ++ Txt.mul "0" 399 = SX.S (49 :: List.replicate 399 48) := TL.ext_tl (by decide +kernel)
  rw [e, SX.int_S (by decide +kernel) (by decide +kernel) (by decide +kernel)]
  have v : NumText.digitsVal (49 :: List.replicate 399 48) = c399 := by
    have h := dv_rep 48 399 1
    have : c399 * 9 = 9 * 10 ^ 399 := by decide +kernel
    unfold NumText.digitsVal
    rw [List.foldl_cons]
    simp only [Nat.zero_mul, Nat.zero_add, Nat.reduceSub, Nat.add_zero, Nat.one_mul] at h ⊢
    omega
  rw [v]
section
variable {P : Program} {w : World} {K : PySem.W.Frag} {mg : Str → Option Value} {base : Heap}
variable {cE cB cN : Addr}
theorem ok_l_number_of (T : Tp P K mg cE cB cN)
    (c_l_one_in : Cal P w K mg base 2 "_law_one_in" P_l_one_in [] (spOne))
    (c_l_pick : Cal P w K mg base 1 "_law_pick" P_l_pick [] (spPick))
    {f : Addr} {fd : FuncData} {dvs : List V} (F : FunD K "_law_number_of" "_law_number_of" (defArgs s_l_number_of) (defBody s_l_number_of) (defScope s_l_number_of) dvs [] f fd) : FnG P w K mg base 3 f fd P_l_number_of (spNumberOf) := by
  refine fng F sc_l_number_of (by walk_at "ulen") (fun cdv A outer s H vs Q E hr0 hg0 h => ?_)
  have hr : Rm 2 (A.deeper (envOfC "_law_number_of" (defScope s_l_number_of) s.heap.objs.size f cdv)) := ⟨hr0, hg0⟩
  have nd : N_l_number_of.Nodup := sc_l_number_of.nd
  obtain ⟨b, rfl, hb, k⟩ := h
  refine ⟨_, (pss_cons (ps_set (i := 1) nd rfl (Or.inl rfl) (pe_c (E := En) c_l_pick (hr.mono (by decide)) paN (pa_cons (pv 0) (pa_cons pe_int pa_nil))))
    (pss_cons (ps_set (i := 2) nd rfl (Or.inl rfl) (pe_c (E := En) c_l_pick (hr.mono (by decide)) paN (pa_cons (pv 0) (pa_cons (pe_ix ix_seq (pe_lst (pa_cons pe_int (pa_cons pe_int (pa_cons pe_int (pa_cons pe_int (pa_cons pe_int (pa_cons pe_int (pa_cons (pe_op op_pow pe_int pe_int) (pa_cons (pe_op op_pow pe_int pe_int) (pa_cons (pe_op op_pow pe_int pe_int) (pa_cons (pe_op op_pow pe_int pe_int) pa_nil))))))))))) (pv 1) (fun _ _ => rfl)) pa_nil))))
    (pss_consJ (ps_if (pt_cmpR (op_uEq hr.r.units) (pv 1) pe_int (nomark _)) (pss_one (ps_set (i := 2) nd rfl (Or.inl rfl) (pe_op op_uAdd (pe_op op_uMul (pv 2) (pe_op op_pow pe_int pe_int)) (pe_c (E := En) c_l_pick (hr.mono (by decide)) paN (pa_cons (pv 0) (pa_cons (pe_op op_pow pe_int pe_int) pa_nil)))))) pss_nil)
    (pss_consJ (ps_if (pt_cmpR (op_uEq hr.r.units) (pv 1) pe_int (nomark _)) (pss_one (ps_set (i := 2) nd rfl (Or.inl rfl) (pe_op op_sub (pe_callTy call_uInt (by rfl) T.int b_int (pa_cons (pe_op op_uMul pe_str pe_int) pa_nil)) (pv 2)))) pss_nil)
    (pss_consJ (ps_if (pt_cmpR (op_uEq hr.r.units) (pv 1) pe_int (nomark _)) (pss_one (ps_set (i := 2) nd rfl (Or.inl rfl) (pe_op op_uAdd (pe_callTy call_uInt (by rfl) T.int b_int (pa_cons (pe_op op_uAdd pe_str (pe_op op_uMul pe_str pe_int)) pa_nil)) (pv 2)))) pss_nil)
    (pss_consJ (ps_if (pt_val (pe_c (E := En) c_l_one_in (hr.mono (by decide)) paN (pa_cons (pv 0) (pa_cons pe_int pa_nil)))) (pss_one (ps_set (i := 2) nd rfl (Or.inl rfl) (pe_op op_sub pe_int (pv 2)))) pss_nil)
    (pss_one (ps_ret (pv 2))))))))), ?_⟩
  walk_at "uk"
  walk_at "us"
  refine ⟨b, 10, rfl, hb, by decide, by decide, fun way H1 w0 w1 k1 => ?_⟩
  walk_at "us"
  refine s_szN (Nat.le_of_ble_eq_true rfl) fun p hp => ?_
  walk_at "us"
  obtain ⟨m, hm, m0, m1⟩ := many_ix w0 w1
  have k2 := k1.tr ((exN (o := .lst manys) hp).kb k1.b1)
  refine s_ixL (.of upd_same) hm ?_
  walk_at "us"
  refine ⟨b, m, rfl, k2.b1, m0, Nat.lt_trans (log_le (n := 64) (by omega) (by decide)) (by decide), fun num H2 n0 n1 k3 => ?_⟩
  have kk := k2.tr k3
  obtain ⟨z1, z2, z3, z4, z5⟩ := c_le
  walk_at "uj"
  refine s_seqJ (fun σ' H' => Kb b H H' ∧ ∃ x : Int, 0 ≤ x ∧ x ≤ c60 ∧ σ' = ((L2.start N_l_number_of [.ref b]).set 1 (some (.int way))).set 2 (some (.int x))) ?_ (fun R hR => ?_)
  · rintro σ' H' ⟨kh, x, x0, x1, rfl⟩
    walk_at "uj"
    refine s_seqJ (fun σ' H' => Kb b H H' ∧ ∃ x : Int, 0 ≤ x ∧ x ≤ big ∧ (way = 9 → x ≤ c60) ∧ σ' = ((L2.start N_l_number_of [.ref b]).set 1 (some (.int way))).set 2 (some (.int x))) ?_ (fun R hR => ?_)
    · rintro σ' H' ⟨kh, x, x0, x1, x2, rfl⟩
      walk_at "uj"
      refine s_seqJ (fun σ' H' => Kb b H H' ∧ ∃ x : Int, 0 ≤ x ∧ x ≤ big ∧ σ' = ((L2.start N_l_number_of [.ref b]).set 1 (some (.int way))).set 2 (some (.int x))) ?_ (fun R hR => ?_)
      · rintro σ' H' ⟨kh, x, x0, x1, rfl⟩
        walk_at "uj"
        refine s_seqJ (fun σ' H' => Kb b H H' ∧ ∃ x : Int, x.natAbs ≤ big ∧ σ' = ((L2.start N_l_number_of [.ref b]).set 1 (some (.int way))).set 2 (some (.int x))) ?_ (fun R hR => ?_)
        · rintro σ' H' ⟨kh, x, x0, rfl⟩
          walk_at "us"
          exact k _ _ x0 kh
        walk_at "us"
        refine ⟨b, 2, rfl, kh.b1, by decide, by decide, fun r H4 k4 => ?_⟩
        walk_at "us"
        refine s_itB (fun _ => ?_) (fun _ => ?_)
        · walk_at "us"
          exact hR _ _ ⟨kh.tr k4, _, by omega, rfl⟩
        · walk_at "us"
          exact hR _ _ ⟨kh.tr k4, x, by omega, rfl⟩
      walk_at "us"
      refine s_ite (fun hw => ?_) (fun hw => ?_)
      · walk_at "us"
        refine s_mulS ?_ ?_
        · exact ⟨by decide +kernel, fun _ _ => by decide +kernel, fun _ _ => by decide +kernel⟩
        refine s_addS (Nat.le_of_ble_eq_true (by decide +kernel)) ?_
        walk_at "us"
        refine s_intS onez (by decide +kernel) ?_
        walk_at "us"
        have := x2 hw
        exact hR _ _ ⟨kh, _, by omega, by omega, rfl⟩
      · walk_at "us"
        exact hR _ _ ⟨kh, x, x0, x1, rfl⟩
    walk_at "us"
    refine s_ite (fun hw => ?_) (fun hw => ?_)
    · walk_at "us"
      refine s_mulS ?_ ?_
      · exact ⟨by decide +kernel, fun _ _ => by decide +kernel, fun _ _ => by decide +kernel⟩
      walk_at "us"
      refine s_intS nine (by decide +kernel) ?_
      walk_at "us"
      exact hR _ _ ⟨kh, _, by omega, by omega, fun z => by omega, rfl⟩
    · walk_at "us"
      exact hR _ _ ⟨kh, x, x0, by omega, fun _ => x1, rfl⟩
  walk_at "us"
  refine s_ite (fun hw => ?_) (fun hw => ?_)
  · walk_at "us"
    refine ⟨b, _, rfl, kk.b1, by decide, by decide, fun num2 H3 q0 q1 k4 => ?_⟩
    walk_at "us"
    have e1 : (10 : Int) ^ Int.toNat 12 = 10 ^ 12 := by decide
    have e2 : (10 : Int) ^ Int.toNat 40 = 10 ^ 40 := by decide
    refine hR _ _ ⟨kk.tr k4, _, ?_, ?_, rfl⟩
    · rw [e2]
      omega
    · rw [e1] at q1
      rw [e2]
      omega
  · walk_at "us"
    exact hR _ _ ⟨kk, num, n0, by omega, rfl⟩
end
end Lw

set_option Elab.async false
set_option linter.all false
set_option maxRecDepth 100000
set_option maxHeartbeats 4000000
namespace Lw
open PySem PySem.Spec L2 Uv
open PyProof.Rows hiding St
local macro_rules | `(tactic| walk_at "umul") => `(tactic| fail)
local macro_rules | `(tactic| walk_at "us1") => `(tactic| first
  | (with_reducible refine s_seq ?_) | (with_reducible refine s_asg ?_) | (with_reducible refine s_gn ?_) | (with_reducible refine s_ret ?_) | (with_reducible refine s_drop ?_) | (with_reducible refine s_if ?_) | (with_reducible refine s_next ?_)
  | (with_reducible refine s_brk ?_) | (with_reducible refine s_cont ?_)
  | ((with_reducible refine' s_var ?hv ?_); (case hv => exact rfl)) | (with_reducible refine s_c ?_) | (with_reducible refine s_op ?_) | (with_reducible refine s_un ?_) | (with_reducible refine s_cb ?_) | (with_reducible refine s_call ?_)
  | (with_reducible refine s_cons ?_) | (with_reducible refine s_nil ?_) | (with_reducible refine s_test ?_) | (with_reducible refine s_tB ?_) | (with_reducible refine s_not ?_) | (with_reducible refine s_and ?_) | (with_reducible refine s_or ?_)
  | (with_reducible refine s_andV ?_) | (with_reducible refine s_orV ?_) | (with_reducible refine s_notV ?_) | (with_reducible refine s_ifE ?_) | (with_reducible refine s_bl ?_) | (with_reducible refine s_iT ?_) | (with_reducible refine s_iF ?_)
  | (with_reducible refine s_I0 ?_) | (with_reducible refine s_U ?_) | (with_reducible refine s_addI ?_) | (with_reducible refine s_eqI ?_) | (with_reducible refine s_eqS ?_) | (with_reducible refine s_eqB ?_) | (with_reducible refine s_neI ?_) | (with_reducible refine s_neS ?_) | (with_reducible refine s_neB ?_)
  | (with_reducible refine s_tupE ?_) | (with_reducible refine s_lstE ?_))
local macro_rules | `(tactic| walk_at "us") => `(tactic| repeat walk_at "us1")
local macro_rules | `(tactic| walk_at "ulen") => `(tactic| (intro vs H Q E h; repeat' (first | (obtain ⟨e, _⟩ := h; subst e; rfl) | (subst h; rfl) | (refine Or.elim h (fun h => ?_) (fun h => ?_)) | (obtain ⟨_, h⟩ := h))))
local macro_rules | `(tactic| walk_at "uk") => `(tactic| (try dsimp only [cxOf, Cx.suite, Cx.tr]))
local macro_rules | `(tactic| walk_at "us2") => `(tactic| first
  | walk_at "us1" | (with_reducible refine s_dput ?_) | ((with_reducible refine' s_mod ?hc ?_); (case hc => first | decide | assumption | omega))
  | (with_reducible refine s_for ?_) | (with_reducible refine s_lc ?_) | (with_reducible refine s_itl ?_) | (with_reducible refine s_itt ?_) | (with_reducible refine s_its ?_) | (with_reducible refine s_itr ?_) | (with_reducible refine s_itr2 ?_) | (with_reducible refine s_disp ?_) | (with_reducible refine s_prn ?_) | (with_reducible refine s_prc ?_) | (with_reducible refine s_m1 ?_) | (with_reducible refine s_isS ?_) | (with_reducible refine s_um1 ?_) | (with_reducible refine s_isB ?_) | (with_reducible refine s_isn ?_) | (with_reducible refine s_notn ?_) | (with_reducible refine s_jd ?_) | (with_reducible refine s_jn ?_) | (with_reducible refine s_jc ?_) | (with_reducible refine s_fmt ?_) | (with_reducible refine s_gc ?_) | (with_reducible refine s_gnil ?_) | (with_reducible refine s_yes ?_) | (with_reducible refine s_raise ?_)
  | ((with_reducible refine' s_pow ?hc ?_); (case hc => exact ⟨by decide, by decide, by decide⟩)) | (with_reducible refine s_int ?_) | (with_reducible refine s_intB ?_) | (with_reducible refine s_strS ?_) | (with_reducible refine s_abs ?_) | (with_reducible refine s_max ?_) | (with_reducible refine s_min ?_) | (with_reducible refine s_gcd ?_)
  | (with_reducible refine s_chain ?_) | (with_reducible refine s_sl ?_) | (with_reducible refine s_noP ?_) | (with_reducible refine s_part ?_) | (with_reducible refine s_exI ?_) 
  | ((with_reducible refine' s_mulI ?hc ?_); (case hc => first | exact Or.inl (Or.inr ⟨by decide, by decide⟩) | exact Or.inl (Or.inl ⟨by decide, by decide⟩) | exact Or.inl (Or.inl ⟨by omega, by omega⟩) | exact Or.inl (Or.inr ⟨by omega, by omega⟩) | walk_at "umul"))
  | ((with_reducible refine' s_ixT ?hc ?hd ?_); (case hc => assumption); (case hd => rfl))
  | ((with_reducible refine' s_lenL ?hc ?_); (case hc => first | assumption | exact SqL.of (by assumption))) | ((with_reducible refine' s_lenT ?hc ?_); (case hc => first | assumption | exact SqT.of (by assumption)))
  | ((with_reducible refine' s_divP ?hc ?hd ?_); (case hc => first | decide | assumption | omega); (case hd => first | decide +kernel | assumption)))
local macro_rules | `(tactic| walk_at "us") => `(tactic| repeat walk_at "us2")
local macro_rules | `(tactic| walk_at "uj") => `(tactic| ((walk_at "us"); with_reducible refine s_J ?_))
local macro_rules | `(tactic| walk_at "umul") => `(tactic| exact Or.inr (mulB (by assumption) (by assumption)))
theorem low_of {n d g : Int} (hd : d ≠ 0) (dn : g ∣ n) (dd : g ∣ d) (ga : g.natAbs = Int.gcd n d) (sg : 0 < d → 0 < g) (sg' : d < 0 → g < 0) (bn : n.natAbs ≤ big) (bd : d.natAbs ≤ big) : Low (n.fdiv g) (d.fdiv g) := by
  obtain ⟨x, rfl⟩ := dn
  obtain ⟨y, rfl⟩ := dd
  have gp := gcd_ne (n := g * x) hd
  have g0 : g ≠ 0 := by omega
  have ng : 1 ≤ g.natAbs := by omega
  rw [Int.mul_fdiv_cancel_left x g0, Int.mul_fdiv_cancel_left y g0]
  have y0 : y ≠ 0 := fun z => hd (by rw [z, Int.mul_zero])
  refine ⟨?_, ?_, ?_, ?_⟩
  · rcases (by omega : 0 < g * y ∨ g * y < 0) with h | h
    · have hg := sg h
      by_cases w : 0 < y
      · exact w
      · have := Int.mul_nonpos_of_nonneg_of_nonpos (Int.le_of_lt hg) (Int.not_lt.mp w)
        omega
    · have hg := sg' h
      by_cases w : 0 < y
      · exact w
      · have := Int.mul_nonneg_of_nonpos_of_nonpos (Int.le_of_lt hg) (Int.not_lt.mp w)
        omega
  · rw [Int.gcd_mul_left] at ga
    have h : g.natAbs * 1 = g.natAbs * Int.gcd x y := by omega
    exact (Nat.eq_of_mul_eq_mul_left (by omega) h).symm
  · rw [Int.natAbs_mul] at bn
    exact Nat.le_trans (Nat.le_mul_of_pos_left _ ng) bn
  · rw [Int.natAbs_mul] at bd
    exact Nat.le_trans (Nat.le_mul_of_pos_left _ ng) bd
theorem low_rat {n d : Int} (hd : d ≠ 0) (bn : n.natAbs ≤ big) (bd : d.natAbs ≤ big) : Low (rN n d) (rD n d) := by
  have gp := gcd_ne (n := n) hd
  refine low_of hd ?_ ?_ (gN_abs n d) ?_ ?_ bn bd
  · unfold gN; split
    · exact Int.gcd_dvd_left n d
    · exact Int.neg_dvd.mpr (Int.gcd_dvd_left n d)
  · unfold gN; split
    · exact Int.gcd_dvd_right n d
    · exact Int.neg_dvd.mpr (Int.gcd_dvd_right n d)
  · intro h; unfold gN; rw [if_pos h]; omega
  · intro h; unfold gN; rw [if_neg (by omega)]; omega
section
variable {P : Program} {w : World} {K : PySem.W.Frag} {mg : Str → Option Value} {base : Heap}
variable {cE cB cN : Addr}
theorem ok_l_second_of (T : Tp P K mg cE cB cN)
    (c_l_number_of : Cal P w K mg base 3 "_law_number_of" P_l_number_of [] (spNumberOf))
    (c_l_pick : Cal P w K mg base 1 "_law_pick" P_l_pick [] (spPick))
    (c_l_ratio : Cal P w K mg base 2 "_law_ratio" P_l_ratio [] (spLRatio))
    {f : Addr} {fd : FuncData} {dvs : List V} (F : FunD K "_law_second_of" "_law_second_of" (defArgs s_l_second_of) (defBody s_l_second_of) (defScope s_l_second_of) dvs [] f fd) : FnG P w K mg base 4 f fd P_l_second_of (spSecondOf K) := by
  refine fng F sc_l_second_of (by walk_at "ulen") (fun cdv A outer s H vs Q E hr0 hg0 h => ?_)
  have hr : Rm 3 (A.deeper (envOfC "_law_second_of" (defScope s_l_second_of) s.heap.objs.size f cdv)) := ⟨hr0, hg0⟩
  have nd : N_l_second_of.Nodup := sc_l_second_of.nd
  obtain ⟨b, v, n, d, rfl, hb, ⟨p, rfl, hp⟩, L, k⟩ := h
  refine ⟨_, (pss_cons (ps_set (i := 2) nd rfl (Or.inl rfl) (pe_c (E := En) c_l_pick (hr.mono (by decide)) paN (pa_cons (pv 0) (pa_cons pe_int pa_nil))))
    (pss_cons (ps_if (pt_cmpR (op_uEq hr.r.units) (pv 2) pe_int (nomark _)) (pss_one (ps_ret (pv 1))) pss_nil)
    (pss_cons (ps_if (pt_cmpR (op_uEq hr.r.units) (pv 2) pe_int (nomark _)) (pss_one (ps_ret (pe_tup (pa_cons (pe_op op_sub pe_int (pe_ix ix_seq (pv 1) pe_int (fun _ _ => rfl))) (pa_cons (pe_ix ix_seq (pv 1) pe_int (fun _ _ => rfl)) pa_nil))))) pss_nil)
    (pss_cons (ps_if (PW.pt (pw_and (pt_cmpR (op_uEq hr.r.units) (pv 2) pe_int (nomark _)) (pw_and1 (pt_cmpR (op_uNe hr.r.units) (pe_ix ix_seq (pv 1) pe_int (fun _ _ => rfl)) pe_int (nomark _))))) (pss_one (ps_ret (pe_c (E := En) c_l_ratio (hr.mono (by decide)) paN (pa_cons (pe_ix ix_seq (pv 1) pe_int (fun _ _ => rfl)) (pa_cons (pe_ix ix_seq (pv 1) pe_int (fun _ _ => rfl)) pa_nil))))) pss_nil)
    (pss_cons (ps_if (pt_cmpR (op_uEq hr.r.units) (pv 2) pe_int (nomark _)) (pss_one (ps_ret (pe_c (E := En) c_l_ratio (hr.mono (by decide)) paN (pa_cons (pe_c (E := En) c_l_number_of (hr.mono (by decide)) paN (pa_cons (pv 0) pa_nil)) (pa_cons (pe_ix ix_seq (pv 1) pe_int (fun _ _ => rfl)) pa_nil))))) pss_nil)
    (pss_cons (ps_if (pt_cmpR (op_uEq hr.r.units) (pv 2) pe_int (nomark _)) (pss_one (ps_ret (pe_tup (pa_cons pe_int (pa_cons pe_int pa_nil))))) pss_nil)
    (pss_cons (ps_if (pt_cmpR (op_uEq hr.r.units) (pv 2) pe_int (nomark _)) (pss_cons (ps_set (i := 3) nd rfl (Or.inl rfl) (pe_ifExp (pt_cmpR op_gt (pe_ix ix_seq (pv 1) pe_int (fun _ _ => rfl)) pe_int (nomark _)) (pe_op op_sub (pe_ix ix_seq (pv 1) pe_int (fun _ _ => rfl)) pe_int) (pe_op op_uAdd (pe_ix ix_seq (pv 1) pe_int (fun _ _ => rfl)) pe_int)))
    (pss_one (ps_ret (pe_c (E := En) c_l_ratio (hr.mono (by decide)) paN (pa_cons (pv 3) (pa_cons (pe_ix ix_seq (pv 1) pe_int (fun _ _ => rfl)) pa_nil)))))) pss_nil)
    (pss_one (ps_ret (pe_c (E := En) c_l_ratio (hr.mono (by decide)) paN (pa_cons (pe_c (E := En) c_l_number_of (hr.mono (by decide)) paN (pa_cons (pv 0) pa_nil)) (pa_cons (pe_callB (call_uMax rfl) (by rfl) T.max b_max (pa_cons pe_int (pa_cons (pe_callB call_uAbs (by rfl) T.abs b_abs (pa_cons (pe_c (E := En) c_l_number_of (hr.mono (by decide)) paN (pa_cons (pv 0) pa_nil)) pa_nil)) pa_nil))) pa_nil)))))))))))), ?_⟩
  walk_at "uk"
  walk_at "us"
  refine ⟨b, 8, rfl, hb, by decide, by decide, fun way H1 w0 w1 k1 => ?_⟩
  have hp1 := k1.t hp
  have bp := L.bn
  have bq := L.bd
  have b1 : 1 ≤ big := by decide +kernel
  have lpos := L.pos
  walk_at "us"
  refine s_ite (fun hw => ?_) (fun hw => ?_)
  · walk_at "us"
    exact k _ _ _ _ ⟨p, rfl, hp1⟩ L k1
  walk_at "us"
  refine s_ite (fun hw => ?_) (fun hw => ?_)
  · walk_at "us"
    refine s_szN (Nat.le_of_ble_eq_true rfl) fun q hq => ?_
    exact k _ (0 - n) d _ ⟨q, rfl, .of upd_same⟩ ⟨L.pos, by rw [Int.zero_sub, Int.neg_gcd]; exact L.one, by omega, L.bd⟩ (k1.tr ((exN hq).kb k1.b1))
  walk_at "us"
  refine s_ite (fun hw => ?_) (fun hw => ?_)
  · walk_at "us"
    refine s_iteN (fun hz => ?_) (fun hz => ?_)
    · walk_at "us"
      refine ⟨_, _, rfl, md_one bq, md_one bp, hz, fun q H' e hq => ?_⟩
      exact k _ _ _ _ ⟨q, rfl, .of hq⟩ (low_rat hz bq bp) (k1.tr (e.kb k1.b1))
    · walk_at "us"
      refine s_ite (fun hw => absurd hw (by omega)) (fun _ => ?_)
      walk_at "us"
      refine s_ite (fun hw => absurd hw (by omega)) (fun _ => ?_)
      walk_at "us"
      refine s_ite (fun hw => absurd hw (by omega)) (fun _ => ?_)
      walk_at "us"
      refine ⟨b, rfl, k1.b1, fun x H2 bx k2 => ?_⟩
      walk_at "us"
      refine ⟨b, rfl, k2.b1, fun y H3 by' k3 => ?_⟩
      walk_at "us"
      have hm : (max 1 (y.natAbs : Int)) ≠ 0 := by omega
      have hb' : (max 1 (y.natAbs : Int)).natAbs ≤ big := by omega
      refine ⟨_, _, rfl, md_one bx, md_one hb', hm, fun q H' e hq => ?_⟩
      exact k _ _ _ _ ⟨q, rfl, .of hq⟩ (low_rat hm bx hb') (((k1.tr k2).tr k3).tr (e.kb k3.b1))
  walk_at "us"
  refine s_ite (fun hw => ?_) (fun hw => ?_)
  · walk_at "us"
    refine ⟨b, rfl, k1.b1, fun x H2 bx k2 => ?_⟩
    have hp2 := k2.t hp1
    walk_at "us"
    refine ⟨_, _, rfl, md_one bx, md_one bq, Int.ne_of_gt lpos, fun q H' e hq => ?_⟩
    exact k _ _ _ _ ⟨q, rfl, .of hq⟩ (low_rat (Int.ne_of_gt lpos) bx bq) ((k1.tr k2).tr (e.kb k2.b1))
  walk_at "us"
  refine s_ite (fun hw => ?_) (fun hw => ?_)
  · walk_at "us"
    refine s_szN (Nat.le_of_ble_eq_true rfl) fun q hq => ?_
    exact k _ 0 1 _ ⟨q, rfl, .of upd_same⟩ ⟨by decide, by decide, by decide +kernel, b1⟩ (k1.tr ((exN hq).kb k1.b1))
  walk_at "us"
  refine s_ite (fun hw => ?_) (fun hw => ?_)
  · walk_at "us"
    refine s_ite (fun hn => ?_) (fun hn => ?_)
    · walk_at "us"
      have bb : (n - 1).natAbs ≤ big := by omega
      refine ⟨_, _, rfl, md_one bb, md_one bq, Int.ne_of_gt lpos, fun q H' e hq => ?_⟩
      exact k _ _ _ _ ⟨q, rfl, .of hq⟩ (low_rat (Int.ne_of_gt lpos) bb bq) (k1.tr (e.kb k1.b1))
    · walk_at "us"
      have bb : (n + 1).natAbs ≤ big := by omega
      refine ⟨_, _, rfl, md_one bb, md_one bq, Int.ne_of_gt lpos, fun q H' e hq => ?_⟩
      exact k _ _ _ _ ⟨q, rfl, .of hq⟩ (low_rat (Int.ne_of_gt lpos) bb bq) (k1.tr (e.kb k1.b1))
  walk_at "us"
  refine ⟨b, rfl, k1.b1, fun x H2 bx k2 => ?_⟩
  walk_at "us"
  refine ⟨b, rfl, k2.b1, fun y H3 by' k3 => ?_⟩
  walk_at "us"
  have hm : (max 1 (y.natAbs : Int)) ≠ 0 := by omega
  have hb' : (max 1 (y.natAbs : Int)).natAbs ≤ big := by omega
  refine ⟨_, _, rfl, md_one bx, md_one hb', hm, fun q H' e hq => ?_⟩
  exact k _ _ _ _ ⟨q, rfl, .of hq⟩ (low_rat hm bx hb') (((k1.tr k2).tr k3).tr (e.kb k3.b1))
end
end Lw

set_option Elab.async false
set_option linter.all false
set_option maxRecDepth 100000
set_option maxHeartbeats 4000000
namespace Lw
open PySem PySem.Spec L2 Uv
open PyProof.Rows hiding St
local macro_rules | `(tactic| walk_at "umul") => `(tactic| fail)
local macro_rules | `(tactic| walk_at "us1") => `(tactic| first
  | (with_reducible refine s_seq ?_) | (with_reducible refine s_asg ?_) | (with_reducible refine s_gn ?_) | (with_reducible refine s_ret ?_) | (with_reducible refine s_drop ?_) | (with_reducible refine s_if ?_) | (with_reducible refine s_next ?_)
  | (with_reducible refine s_brk ?_) | (with_reducible refine s_cont ?_)
  | ((with_reducible refine' s_var ?hv ?_); (case hv => exact rfl)) | (with_reducible refine s_c ?_) | (with_reducible refine s_op ?_) | (with_reducible refine s_un ?_) | (with_reducible refine s_cb ?_) | (with_reducible refine s_call ?_)
  | (with_reducible refine s_cons ?_) | (with_reducible refine s_nil ?_) | (with_reducible refine s_test ?_) | (with_reducible refine s_tB ?_) | (with_reducible refine s_not ?_) | (with_reducible refine s_and ?_) | (with_reducible refine s_or ?_)
  | (with_reducible refine s_andV ?_) | (with_reducible refine s_orV ?_) | (with_reducible refine s_notV ?_) | (with_reducible refine s_ifE ?_) | (with_reducible refine s_bl ?_) | (with_reducible refine s_iT ?_) | (with_reducible refine s_iF ?_)
  | (with_reducible refine s_I0 ?_) | (with_reducible refine s_U ?_) | (with_reducible refine s_addI ?_) | (with_reducible refine s_eqI ?_) | (with_reducible refine s_eqS ?_) | (with_reducible refine s_eqB ?_) | (with_reducible refine s_neI ?_) | (with_reducible refine s_neS ?_) | (with_reducible refine s_neB ?_)
  | (with_reducible refine s_tupE ?_) | (with_reducible refine s_lstE ?_))
local macro_rules | `(tactic| walk_at "us") => `(tactic| repeat walk_at "us1")
local macro_rules | `(tactic| walk_at "ulen") => `(tactic| (intro vs H Q E h; repeat' (first | (obtain ⟨e, _⟩ := h; subst e; rfl) | (subst h; rfl) | (refine Or.elim h (fun h => ?_) (fun h => ?_)) | (obtain ⟨_, h⟩ := h))))
local macro_rules | `(tactic| walk_at "uk") => `(tactic| (try dsimp only [cxOf, Cx.suite, Cx.tr]))
local macro_rules | `(tactic| walk_at "us2") => `(tactic| first
  | walk_at "us1" | (with_reducible refine s_dput ?_) | ((with_reducible refine' s_mod ?hc ?_); (case hc => first | decide | assumption | omega))
  | (with_reducible refine s_for ?_) | (with_reducible refine s_lc ?_) | (with_reducible refine s_itl ?_) | (with_reducible refine s_itt ?_) | (with_reducible refine s_its ?_) | (with_reducible refine s_itr ?_) | (with_reducible refine s_itr2 ?_) | (with_reducible refine s_disp ?_) | (with_reducible refine s_prn ?_) | (with_reducible refine s_prc ?_) | (with_reducible refine s_m1 ?_) | (with_reducible refine s_isS ?_) | (with_reducible refine s_um1 ?_) | (with_reducible refine s_isB ?_) | (with_reducible refine s_isn ?_) | (with_reducible refine s_notn ?_) | (with_reducible refine s_jd ?_) | (with_reducible refine s_jn ?_) | (with_reducible refine s_jc ?_) | (with_reducible refine s_fmt ?_) | (with_reducible refine s_gc ?_) | (with_reducible refine s_gnil ?_) | (with_reducible refine s_yes ?_) | (with_reducible refine s_raise ?_)
  | ((with_reducible refine' s_pow ?hc ?_); (case hc => exact ⟨by decide, by decide, by decide⟩)) | (with_reducible refine s_int ?_) | (with_reducible refine s_intB ?_) | (with_reducible refine s_strS ?_) | (with_reducible refine s_abs ?_) | (with_reducible refine s_max ?_) | (with_reducible refine s_min ?_) | (with_reducible refine s_gcd ?_)
  | (with_reducible refine s_chain ?_) | (with_reducible refine s_sl ?_) | (with_reducible refine s_noP ?_) | (with_reducible refine s_part ?_) | (with_reducible refine s_exI ?_) 
  | ((with_reducible refine' s_mulI ?hc ?_); (case hc => first | exact Or.inl (Or.inr ⟨by decide, by decide⟩) | exact Or.inl (Or.inl ⟨by decide, by decide⟩) | exact Or.inl (Or.inl ⟨by omega, by omega⟩) | exact Or.inl (Or.inr ⟨by omega, by omega⟩) | walk_at "umul"))
  | ((with_reducible refine' s_ixT ?hc ?hd ?_); (case hc => assumption); (case hd => rfl))
  | ((with_reducible refine' s_lenL ?hc ?_); (case hc => first | assumption | exact SqL.of (by assumption))) | ((with_reducible refine' s_lenT ?hc ?_); (case hc => first | assumption | exact SqT.of (by assumption)))
  | ((with_reducible refine' s_divP ?hc ?hd ?_); (case hc => first | decide | assumption | omega); (case hd => first | decide +kernel | assumption)))
local macro_rules | `(tactic| walk_at "us") => `(tactic| repeat walk_at "us2")
local macro_rules | `(tactic| walk_at "uj") => `(tactic| ((walk_at "us"); with_reducible refine s_J ?_))
local macro_rules | `(tactic| walk_at "ub") => `(tactic| ((walk_at "us"); (first | (refine s_iF ?_) | (refine s_iT ?_)); (walk_at "us")))
local macro_rules | `(tactic| walk_at "umul") => `(tactic| exact Or.inr (mulB (by assumption) (by assumption)))
section
variable {P : Program} {w : World} {K : PySem.W.Frag} {mg : Str → Option Value} {base : Heap}
variable {cE cB cN : Addr}
theorem ok_l_same (T : Tp P K mg cE cB cN)
    (c_l_integer : Cal P w K mg base 1 "_law_integer" P_l_integer [] (spInteger K))
    {f : Addr} {fd : FuncData} {dvs : List V} (F : FunD K "_law_same" "_law_same" (defArgs s_l_same) (defBody s_l_same) (defScope s_l_same) dvs [] f fd) : FnG P w K mg base 2 f fd P_l_same (spSame K) := by
  refine fng F sc_l_same (by walk_at "ulen") (fun cdv A outer s H vs Q E hr0 hg0 h => ?_)
  have hr : Rm 1 (A.deeper (envOfC "_law_same" (defScope s_l_same) s.heap.objs.size f cdv)) := ⟨hr0, hg0⟩
  have nd : N_l_same.Nodup := sc_l_same.nd
  obtain ⟨v, w, n, d, rfl, ⟨p, rfl, h1⟩, ⟨q, rfl, h2⟩, k⟩ := h
  have D1 : Dp K H (.ref p) (.tuple [.int n, .int d]) := .tup h1 (.cons (.int n) (.cons (.int d) .nil))
  have D2 : Dp K H (.ref q) (.tuple [.int n, .int d]) := .tup h2 (.cons (.int n) (.cons (.int d) .nil))
  refine ⟨_, (pss_cons (ps_if (PW.pt (pw_or (pt_not (pt_val (pe_callB call_isi (by rfl) T.isinstance b_isinstance (pa_cons (pv 0) (pa_cons (pe_bltn (v := .ty "tuple") (by rfl) T.tuple b_tuple rfl) pa_nil))))) (pw_or (pt_cmpR (op_uNe hr.r.units) (pe_callB call_uLen (by rfl) T.len b_len (pa_cons (pv 0) pa_nil)) pe_int (nomark _)) (pw_or (pt_not (pt_val (pe_c (E := En) c_l_integer (hr.mono (by decide)) paN (pa_cons (pe_ix ix_seq (pv 0) pe_int (fun _ _ => rfl)) pa_nil)))) (pw_or1 (pt_not (pt_val (pe_c (E := En) c_l_integer (hr.mono (by decide)) paN (pa_cons (pe_ix ix_seq (pv 0) pe_int (fun _ _ => rfl)) pa_nil))))))))) (pss_one (ps_ret pe_bl)) pss_nil)
    (pss_one (ps_ret (pe_cmpR (op_uEq hr.r.units) (pv 0) (pv 1) (nomark _))))), ?_⟩
  walk_at "uk"
  walk_at "us"
  refine s_isTup D1 ?_
  walk_at "ub"
  walk_at "ub"
  refine ⟨n, rfl, ?_⟩
  walk_at "ub"
  refine ⟨d, rfl, ?_⟩
  walk_at "ub"
  refine eq_data D1 D2 rfl rfl ?_
  rw [show PyData.eqv (.tuple [.int n, .int d]) (.tuple [.int n, .int d]) = true by simp [PyData.eqv, PyData.eqvAll]]
  exact k
end
end Lw

set_option Elab.async false
set_option linter.all false
set_option maxRecDepth 100000
set_option maxHeartbeats 4000000
namespace Lw
open PySem PySem.Spec L2 Uv
open PyProof.Rows hiding St
local macro_rules | `(tactic| walk_at "umul") => `(tactic| fail)
local macro_rules | `(tactic| walk_at "us1") => `(tactic| first
  | (with_reducible refine s_seq ?_) | (with_reducible refine s_asg ?_) | (with_reducible refine s_gn ?_) | (with_reducible refine s_ret ?_) | (with_reducible refine s_drop ?_) | (with_reducible refine s_if ?_) | (with_reducible refine s_next ?_)
  | (with_reducible refine s_brk ?_) | (with_reducible refine s_cont ?_)
  | ((with_reducible refine' s_var ?hv ?_); (case hv => exact rfl)) | (with_reducible refine s_c ?_) | (with_reducible refine s_op ?_) | (with_reducible refine s_un ?_) | (with_reducible refine s_cb ?_) | (with_reducible refine s_call ?_)
  | (with_reducible refine s_cons ?_) | (with_reducible refine s_nil ?_) | (with_reducible refine s_test ?_) | (with_reducible refine s_tB ?_) | (with_reducible refine s_not ?_) | (with_reducible refine s_and ?_) | (with_reducible refine s_or ?_)
  | (with_reducible refine s_andV ?_) | (with_reducible refine s_orV ?_) | (with_reducible refine s_notV ?_) | (with_reducible refine s_ifE ?_) | (with_reducible refine s_bl ?_) | (with_reducible refine s_iT ?_) | (with_reducible refine s_iF ?_)
  | (with_reducible refine s_I0 ?_) | (with_reducible refine s_U ?_) | (with_reducible refine s_addI ?_) | (with_reducible refine s_eqI ?_) | (with_reducible refine s_eqS ?_) | (with_reducible refine s_eqB ?_) | (with_reducible refine s_neI ?_) | (with_reducible refine s_neS ?_) | (with_reducible refine s_neB ?_)
  | (with_reducible refine s_tupE ?_) | (with_reducible refine s_lstE ?_))
local macro_rules | `(tactic| walk_at "us") => `(tactic| repeat walk_at "us1")
local macro_rules | `(tactic| walk_at "ulen") => `(tactic| (intro vs H Q E h; repeat' (first | (obtain ⟨e, _⟩ := h; subst e; rfl) | (subst h; rfl) | (refine Or.elim h (fun h => ?_) (fun h => ?_)) | (obtain ⟨_, h⟩ := h))))
local macro_rules | `(tactic| walk_at "uk") => `(tactic| (try dsimp only [cxOf, Cx.suite, Cx.tr]))
local macro_rules | `(tactic| walk_at "us2") => `(tactic| first
  | walk_at "us1" | (with_reducible refine s_dput ?_) | ((with_reducible refine' s_mod ?hc ?_); (case hc => first | decide | assumption | omega))
  | (with_reducible refine s_for ?_) | (with_reducible refine s_lc ?_) | (with_reducible refine s_itl ?_) | (with_reducible refine s_itt ?_) | (with_reducible refine s_its ?_) | (with_reducible refine s_itr ?_) | (with_reducible refine s_itr2 ?_) | (with_reducible refine s_disp ?_) | (with_reducible refine s_prn ?_) | (with_reducible refine s_prc ?_) | (with_reducible refine s_m1 ?_) | (with_reducible refine s_isS ?_) | (with_reducible refine s_um1 ?_) | (with_reducible refine s_isB ?_) | (with_reducible refine s_isn ?_) | (with_reducible refine s_notn ?_) | (with_reducible refine s_jd ?_) | (with_reducible refine s_jn ?_) | (with_reducible refine s_jc ?_) | (with_reducible refine s_fmt ?_) | (with_reducible refine s_gc ?_) | (with_reducible refine s_gnil ?_) | (with_reducible refine s_yes ?_) | (with_reducible refine s_raise ?_)
  | ((with_reducible refine' s_pow ?hc ?_); (case hc => exact ⟨by decide, by decide, by decide⟩)) | (with_reducible refine s_int ?_) | (with_reducible refine s_intB ?_) | (with_reducible refine s_strS ?_) | (with_reducible refine s_abs ?_) | (with_reducible refine s_max ?_) | (with_reducible refine s_min ?_) | (with_reducible refine s_gcd ?_)
  | (with_reducible refine s_chain ?_) | (with_reducible refine s_sl ?_) | (with_reducible refine s_noP ?_) | (with_reducible refine s_part ?_) | (with_reducible refine s_exI ?_) 
  | ((with_reducible refine' s_mulI ?hc ?_); (case hc => first | exact Or.inl (Or.inr ⟨by decide, by decide⟩) | exact Or.inl (Or.inl ⟨by decide, by decide⟩) | exact Or.inl (Or.inl ⟨by omega, by omega⟩) | exact Or.inl (Or.inr ⟨by omega, by omega⟩) | walk_at "umul"))
  | ((with_reducible refine' s_ixT ?hc ?hd ?_); (case hc => assumption); (case hd => rfl))
  | ((with_reducible refine' s_lenL ?hc ?_); (case hc => first | assumption | exact SqL.of (by assumption))) | ((with_reducible refine' s_lenT ?hc ?_); (case hc => first | assumption | exact SqT.of (by assumption)))
  | ((with_reducible refine' s_divP ?hc ?hd ?_); (case hc => first | decide | assumption | omega); (case hd => first | decide +kernel | assumption)))
local macro_rules | `(tactic| walk_at "us") => `(tactic| repeat walk_at "us2")
local macro_rules | `(tactic| walk_at "uj") => `(tactic| ((walk_at "us"); with_reducible refine s_J ?_))
local macro_rules | `(tactic| walk_at "ua") => `(tactic| ((walk_at "us"); repeat ((first | (refine s_iF ?_) | (refine s_iT ?_)); (walk_at "us"))))
local macro_rules | `(tactic| walk_at "ub") => `(tactic| walk_at "ua")
local macro_rules | `(tactic| walk_at "umul") => `(tactic| exact Or.inr (mulB (by assumption) (by assumption)))
section
variable {P : Program} {w : World} {K : PySem.W.Frag} {mg : Str → Option Value} {base : Heap}
variable {cE cB cN : Addr}
theorem ok_is_integer (T : Tp P K mg cE cB cN)
    {f : Addr} {fd : FuncData} {dvs : List V} (F : FunD K "is_integer" "is_integer" (defArgs s_is_integer) (defBody s_is_integer) (defScope s_is_integer) dvs [] f fd) : FnG P w K mg base 1 f fd P_is_integer (spIsInteger K) := by
  refine fng F sc_is_integer (by walk_at "ulen") (fun cdv A outer s H vs Q E hr0 hg0 h => ?_)
  have hr : Rm 0 (A.deeper (envOfC "is_integer" (defScope s_is_integer) s.heap.objs.size f cdv)) := ⟨hr0, hg0⟩
  have nd : N_is_integer.Nodup := sc_is_integer.nd
  obtain ⟨v, d, lo, l, rfl, hd, hl, k⟩ := h
  refine ⟨_, (pss_cons (ps_if (PW.pt (pw_or (pt_not (pt_val (pe_callB call_isi (by rfl) T.isinstance b_isinstance (pa_cons (pv 0) (pa_cons (pe_bltn (v := .ty "int") (by rfl) T.int b_int rfl) pa_nil))))) (pw_or1 (pt_val (pe_callB call_isi (by rfl) T.isinstance b_isinstance (pa_cons (pv 0) (pa_cons (pe_bltn (v := .ty "bool") (by rfl) T.bool b_bool rfl) pa_nil))))))) (pss_one (ps_ret pe_bl)) pss_nil)
    (pss_one (ps_ret (pe_and (pe_or (pe_cmpR op_uIsN (pv 1) pe_non (nomark _)) (pe_one (pe_cmpR op_le (pv 1) (pv 0) (nomark _)))) (pe_one (pe_or (pe_cmpR op_uIsN (pv 2) pe_non (nomark _)) (pe_one (pe_cmpR op_le (pv 0) (pv 2) (nomark _))))))))), ?_⟩
  walk_at "uk"
  walk_at "us"
  refine s_isInt hd ?_
  cases hd with
  | int i =>
    walk_at "ua"
    refine s_isBool (.int i) ?_
    rcases hl with ⟨rfl, rfl⟩ | ⟨j, rfl, rfl⟩
    · walk_at "ua"
      exact k
    · walk_at "ua"
      refine s_itB (fun z => ?_) (fun z => ?_)
      · walk_at "ua"
        rw [show isIntegerD (.int i) (some j) = true from z] at k
        exact k
      · walk_at "ua"
        rw [show isIntegerD (.int i) (some j) = false from z] at k
        exact k
  | bl b =>
    walk_at "ua"
    refine s_isBool (.bl b) ?_
    walk_at "ua"
    exact k
  | _ =>
    walk_at "ua"
    exact k
end
end Lw

set_option Elab.async false
set_option linter.all false
set_option maxRecDepth 100000
set_option maxHeartbeats 4000000
namespace Lw
open PySem PySem.Spec L2 Uv
open PyProof.Rows hiding St
local macro_rules | `(tactic| walk_at "umul") => `(tactic| fail)
local macro_rules | `(tactic| walk_at "us1") => `(tactic| first
  | (with_reducible refine s_seq ?_) | (with_reducible refine s_asg ?_) | (with_reducible refine s_gn ?_) | (with_reducible refine s_ret ?_) | (with_reducible refine s_drop ?_) | (with_reducible refine s_if ?_) | (with_reducible refine s_next ?_)
  | (with_reducible refine s_brk ?_) | (with_reducible refine s_cont ?_)
  | ((with_reducible refine' s_var ?hv ?_); (case hv => exact rfl)) | (with_reducible refine s_c ?_) | (with_reducible refine s_op ?_) | (with_reducible refine s_un ?_) | (with_reducible refine s_cb ?_) | (with_reducible refine s_call ?_)
  | (with_reducible refine s_cons ?_) | (with_reducible refine s_nil ?_) | (with_reducible refine s_test ?_) | (with_reducible refine s_tB ?_) | (with_reducible refine s_not ?_) | (with_reducible refine s_and ?_) | (with_reducible refine s_or ?_)
  | (with_reducible refine s_andV ?_) | (with_reducible refine s_orV ?_) | (with_reducible refine s_notV ?_) | (with_reducible refine s_ifE ?_) | (with_reducible refine s_bl ?_) | (with_reducible refine s_iT ?_) | (with_reducible refine s_iF ?_)
  | (with_reducible refine s_I0 ?_) | (with_reducible refine s_U ?_) | (with_reducible refine s_addI ?_) | (with_reducible refine s_eqI ?_) | (with_reducible refine s_eqS ?_) | (with_reducible refine s_eqB ?_) | (with_reducible refine s_neI ?_) | (with_reducible refine s_neS ?_) | (with_reducible refine s_neB ?_)
  | (with_reducible refine s_tupE ?_) | (with_reducible refine s_lstE ?_))
local macro_rules | `(tactic| walk_at "us") => `(tactic| repeat walk_at "us1")
local macro_rules | `(tactic| walk_at "ulen") => `(tactic| (intro vs H Q E h; repeat' (first | (obtain ⟨e, _⟩ := h; subst e; rfl) | (subst h; rfl) | (refine Or.elim h (fun h => ?_) (fun h => ?_)) | (obtain ⟨_, h⟩ := h))))
local macro_rules | `(tactic| walk_at "uk") => `(tactic| (try dsimp only [cxOf, Cx.suite, Cx.tr]))
local macro_rules | `(tactic| walk_at "us2") => `(tactic| first
  | walk_at "us1" | (with_reducible refine s_dput ?_) | ((with_reducible refine' s_mod ?hc ?_); (case hc => first | decide | assumption | omega))
  | (with_reducible refine s_for ?_) | (with_reducible refine s_lc ?_) | (with_reducible refine s_itl ?_) | (with_reducible refine s_itt ?_) | (with_reducible refine s_its ?_) | (with_reducible refine s_itr ?_) | (with_reducible refine s_itr2 ?_) | (with_reducible refine s_disp ?_) | (with_reducible refine s_prn ?_) | (with_reducible refine s_prc ?_) | (with_reducible refine s_m1 ?_) | (with_reducible refine s_isS ?_) | (with_reducible refine s_um1 ?_) | (with_reducible refine s_isB ?_) | (with_reducible refine s_isn ?_) | (with_reducible refine s_notn ?_) | (with_reducible refine s_jd ?_) | (with_reducible refine s_jn ?_) | (with_reducible refine s_jc ?_) | (with_reducible refine s_fmt ?_) | (with_reducible refine s_gc ?_) | (with_reducible refine s_gnil ?_) | (with_reducible refine s_yes ?_) | (with_reducible refine s_raise ?_)
  | ((with_reducible refine' s_pow ?hc ?_); (case hc => exact ⟨by decide, by decide, by decide⟩)) | (with_reducible refine s_int ?_) | (with_reducible refine s_intB ?_) | (with_reducible refine s_strS ?_) | (with_reducible refine s_abs ?_) | (with_reducible refine s_max ?_) | (with_reducible refine s_min ?_) | (with_reducible refine s_gcd ?_)
  | (with_reducible refine s_chain ?_) | (with_reducible refine s_sl ?_) | (with_reducible refine s_noP ?_) | (with_reducible refine s_part ?_) | (with_reducible refine s_exI ?_) 
  | ((with_reducible refine' s_mulI ?hc ?_); (case hc => first | exact Or.inl (Or.inr ⟨by decide, by decide⟩) | exact Or.inl (Or.inl ⟨by decide, by decide⟩) | exact Or.inl (Or.inl ⟨by omega, by omega⟩) | exact Or.inl (Or.inr ⟨by omega, by omega⟩) | walk_at "umul"))
  | ((with_reducible refine' s_ixT ?hc ?hd ?_); (case hc => assumption); (case hd => rfl))
  | ((with_reducible refine' s_lenL ?hc ?_); (case hc => first | assumption | exact SqL.of (by assumption))) | ((with_reducible refine' s_lenT ?hc ?_); (case hc => first | assumption | exact SqT.of (by assumption)))
  | ((with_reducible refine' s_divP ?hc ?hd ?_); (case hc => first | decide | assumption | omega); (case hd => first | decide +kernel | assumption)))
local macro_rules | `(tactic| walk_at "us") => `(tactic| repeat walk_at "us2")
local macro_rules | `(tactic| walk_at "uj") => `(tactic| ((walk_at "us"); with_reducible refine s_J ?_))
local macro_rules | `(tactic| walk_at "ub") => `(tactic| ((walk_at "us"); (first | (refine s_iF ?_) | (refine s_iT ?_)); (walk_at "us")))
local macro_rules | `(tactic| walk_at "umul") => `(tactic| exact Or.inr (mulB (by assumption) (by assumption)))
section
variable {P : Program} {w : World} {K : PySem.W.Frag} {mg : Str → Option Value} {base : Heap}
variable {cE cB cN : Addr}
theorem ok_ratio (T : Tp P K mg cE cB cN)
    {f : Addr} {fd : FuncData} {dvs : List V} (F : FunD K "ratio" "ratio" (defArgs s_ratio) (defBody s_ratio) (defScope s_ratio) dvs [] f fd) : FnG P w K mg base 1 f fd P_ratio (spRatio cN) := by
  refine fng F sc_ratio (by walk_at "ulen") (fun cdv A outer s H vs Q E hr0 hg0 h => ?_)
  have hr : Rm 0 (A.deeper (envOfC "ratio" (defScope s_ratio) s.heap.objs.size f cdv)) := ⟨hr0, hg0⟩
  have nd : N_ratio.Nodup := sc_ratio.nd
  have tk : Takes (cxOf (L2.CX P w) P w K mg base N_ratio "ratio" (defScope s_ratio) f cdv A outer s H E) (fun cls d _ H => E cls d H) := takes_of rfl rfl rfl rfl
  obtain ⟨n, d, rfl, bn, bd, k, kx⟩ := h
  refine ⟨_, (pss_cons (ps_if (pt_cmpR (op_uEq hr.r.units) (pv 1) pe_int (nomark _)) (pss_one (ps_raiseX rfl T.x_Nought hr.r tk (by decide) (by decide) (pa_cons (pv 0) pa_nil))) pss_nil)
    (pss_cons (ps_set (i := 2) nd rfl (Or.inl rfl) (pe_callBfun call_uGcd (by rfl) T.g_gcd (pa_cons (pv 0) (pa_cons (pv 1) pa_nil))))
    (pss_consJ (ps_if (pt_cmpR op_lt (pv 1) pe_int (nomark _)) (pss_one (ps_set (i := 2) nd rfl (Or.inl rfl) (pe_un un_neg (pv 2)))) pss_nil)
    (pss_one (ps_ret (pe_tup (pa_cons (pe_op op_uDiv (pv 0) (pv 2)) (pa_cons (pe_op op_uDiv (pv 1) (pv 2)) pa_nil)))))))), ?_⟩
  walk_at "uk"
  walk_at "us"
  refine s_ite (fun hz => ?_) (fun hz => ?_)
  · walk_at "us"
    refine ⟨rfl, fun e he => ?_⟩
    exact kx hz e _ (exN he) upd_same
  walk_at "uj"
  refine s_seqJ (fun σ' H' => H = H' ∧ σ' = (L2.start N_ratio [.int n, .int d]).set 2 (some (.int (gN n d)))) ?_ (fun R hR => ?_)
  · rintro σ' _ ⟨rfl, rfl⟩
    walk_at "us"
    refine s_divI ⟨gN_ne hz, gN_log hz bd⟩ ?_
    walk_at "us"
    refine s_divI ⟨gN_ne hz, gN_log hz bd⟩ ?_
    walk_at "us"
    refine s_szN (Nat.le_of_ble_eq_true rfl) fun p hp => ?_
    exact k hz p _ (exN hp) upd_same
  walk_at "us"
  refine s_ite (fun hd => ?_) (fun hd => ?_)
  · walk_at "us"
    exact hR _ _ ⟨rfl, by unfold gN; rw [if_neg (by omega)]; rfl⟩
  · walk_at "us"
    exact hR _ _ ⟨rfl, by unfold gN; rw [if_pos (by omega)]⟩
end
end Lw

set_option Elab.async false
set_option linter.all false
set_option maxRecDepth 100000
set_option maxHeartbeats 4000000
namespace Lw
open PySem PySem.Spec L2 Uv
open PyProof.Rows hiding St
local macro_rules | `(tactic| walk_at "umul") => `(tactic| fail)
local macro_rules | `(tactic| walk_at "us1") => `(tactic| first
  | (with_reducible refine s_seq ?_) | (with_reducible refine s_asg ?_) | (with_reducible refine s_gn ?_) | (with_reducible refine s_ret ?_) | (with_reducible refine s_drop ?_) | (with_reducible refine s_if ?_) | (with_reducible refine s_next ?_)
  | (with_reducible refine s_brk ?_) | (with_reducible refine s_cont ?_)
  | ((with_reducible refine' s_var ?hv ?_); (case hv => exact rfl)) | (with_reducible refine s_c ?_) | (with_reducible refine s_op ?_) | (with_reducible refine s_un ?_) | (with_reducible refine s_cb ?_) | (with_reducible refine s_call ?_)
  | (with_reducible refine s_cons ?_) | (with_reducible refine s_nil ?_) | (with_reducible refine s_test ?_) | (with_reducible refine s_tB ?_) | (with_reducible refine s_not ?_) | (with_reducible refine s_and ?_) | (with_reducible refine s_or ?_)
  | (with_reducible refine s_andV ?_) | (with_reducible refine s_orV ?_) | (with_reducible refine s_notV ?_) | (with_reducible refine s_ifE ?_) | (with_reducible refine s_bl ?_) | (with_reducible refine s_iT ?_) | (with_reducible refine s_iF ?_)
  | (with_reducible refine s_I0 ?_) | (with_reducible refine s_U ?_) | (with_reducible refine s_addI ?_) | (with_reducible refine s_eqI ?_) | (with_reducible refine s_eqS ?_) | (with_reducible refine s_eqB ?_) | (with_reducible refine s_neI ?_) | (with_reducible refine s_neS ?_) | (with_reducible refine s_neB ?_)
  | (with_reducible refine s_tupE ?_) | (with_reducible refine s_lstE ?_))
local macro_rules | `(tactic| walk_at "us") => `(tactic| repeat walk_at "us1")
local macro_rules | `(tactic| walk_at "ulen") => `(tactic| (intro vs H Q E h; repeat' (first | (obtain ⟨e, _⟩ := h; subst e; rfl) | (subst h; rfl) | (refine Or.elim h (fun h => ?_) (fun h => ?_)) | (obtain ⟨_, h⟩ := h))))
local macro_rules | `(tactic| walk_at "uk") => `(tactic| (try dsimp only [cxOf, Cx.suite, Cx.tr]))
local macro_rules | `(tactic| walk_at "us2") => `(tactic| first
  | walk_at "us1" | (with_reducible refine s_dput ?_) | ((with_reducible refine' s_mod ?hc ?_); (case hc => first | decide | assumption | omega))
  | (with_reducible refine s_for ?_) | (with_reducible refine s_lc ?_) | (with_reducible refine s_itl ?_) | (with_reducible refine s_itt ?_) | (with_reducible refine s_its ?_) | (with_reducible refine s_itr ?_) | (with_reducible refine s_itr2 ?_) | (with_reducible refine s_disp ?_) | (with_reducible refine s_prn ?_) | (with_reducible refine s_prc ?_) | (with_reducible refine s_m1 ?_) | (with_reducible refine s_isS ?_) | (with_reducible refine s_um1 ?_) | (with_reducible refine s_isB ?_) | (with_reducible refine s_isn ?_) | (with_reducible refine s_notn ?_) | (with_reducible refine s_jd ?_) | (with_reducible refine s_jn ?_) | (with_reducible refine s_jc ?_) | (with_reducible refine s_fmt ?_) | (with_reducible refine s_gc ?_) | (with_reducible refine s_gnil ?_) | (with_reducible refine s_yes ?_) | (with_reducible refine s_raise ?_)
  | ((with_reducible refine' s_pow ?hc ?_); (case hc => exact ⟨by decide, by decide, by decide⟩)) | (with_reducible refine s_int ?_) | (with_reducible refine s_intB ?_) | (with_reducible refine s_strS ?_) | (with_reducible refine s_abs ?_) | (with_reducible refine s_max ?_) | (with_reducible refine s_min ?_) | (with_reducible refine s_gcd ?_)
  | (with_reducible refine s_chain ?_) | (with_reducible refine s_sl ?_) | (with_reducible refine s_noP ?_) | (with_reducible refine s_part ?_) | (with_reducible refine s_exI ?_) 
  | ((with_reducible refine' s_mulI ?hc ?_); (case hc => first | exact Or.inl (Or.inr ⟨by decide, by decide⟩) | exact Or.inl (Or.inl ⟨by decide, by decide⟩) | exact Or.inl (Or.inl ⟨by omega, by omega⟩) | exact Or.inl (Or.inr ⟨by omega, by omega⟩) | walk_at "umul"))
  | ((with_reducible refine' s_ixT ?hc ?hd ?_); (case hc => assumption); (case hd => rfl))
  | ((with_reducible refine' s_lenL ?hc ?_); (case hc => first | assumption | exact SqL.of (by assumption))) | ((with_reducible refine' s_lenT ?hc ?_); (case hc => first | assumption | exact SqT.of (by assumption)))
  | ((with_reducible refine' s_divP ?hc ?hd ?_); (case hc => first | decide | assumption | omega); (case hd => first | decide +kernel | assumption)))
local macro_rules | `(tactic| walk_at "us") => `(tactic| repeat walk_at "us2")
local macro_rules | `(tactic| walk_at "uj") => `(tactic| ((walk_at "us"); with_reducible refine s_J ?_))
local macro_rules | `(tactic| walk_at "ua") => `(tactic| ((walk_at "us"); repeat ((first | (refine s_iF ?_) | (refine s_iT ?_)); (walk_at "us"))))
local macro_rules | `(tactic| walk_at "ub") => `(tactic| walk_at "ua")
local macro_rules | `(tactic| walk_at "umul") => `(tactic| exact Or.inr (mulB (by assumption) (by assumption)))
theorem dpa_len {K : PySem.W.Frag} {H : Hp} : ∀ {xs : List V} {ds : List PyData}, DpAll K H xs ds → xs.length = ds.length
  | _, _, .nil => rfl
  | _, _, .cons _ r => congrArg (· + 1) (dpa_len r)
theorem isRat_ne {ds : List PyData} (h : ds.length ≠ 2) : isRatD (.tuple ds) = false := by
  unfold isRatD
  split
  · rename_i n e q
    cases q
    exact absurd rfl h
  · rfl
section
variable {P : Program} {w : World} {K : PySem.W.Frag} {mg : Str → Option Value} {base : Heap}
variable {cE cB cN : Addr}
theorem ok_is_ratio (T : Tp P K mg cE cB cN)
    (c_is_integer_1 : Cal P w K mg base 1 "is_integer" P_is_integer [.non, .non] (spIsInteger K))
    (c_is_integer_2 : Cal P w K mg base 1 "is_integer" P_is_integer [.non] (spIsInteger K))
    {f : Addr} {fd : FuncData} {dvs : List V} (F : FunD K "is_ratio" "is_ratio" (defArgs s_is_ratio) (defBody s_is_ratio) (defScope s_is_ratio) dvs [] f fd) : FnG P w K mg base 2 f fd P_is_ratio (spIsRatio K) := by
  refine fng F sc_is_ratio (by walk_at "ulen") (fun cdv A outer s H vs Q E hr0 hg0 h => ?_)
  have hr : Rm 1 (A.deeper (envOfC "is_ratio" (defScope s_is_ratio) s.heap.objs.size f cdv)) := ⟨hr0, hg0⟩
  have nd : N_is_ratio.Nodup := sc_is_ratio.nd
  obtain ⟨v, d, rfl, hd, k⟩ := h
  refine ⟨_, (pss_cons (ps_if (PW.pt (pw_or (pt_not (pt_val (pe_callB call_isi (by rfl) T.isinstance b_isinstance (pa_cons (pv 0) (pa_cons (pe_bltn (v := .ty "tuple") (by rfl) T.tuple b_tuple rfl) pa_nil))))) (pw_or1 (pt_cmpR (op_uNe hr.r.units) (pe_callB call_uLen (by rfl) T.len b_len (pa_cons (pv 0) pa_nil)) pe_int (nomark _))))) (pss_one (ps_ret pe_bl)) pss_nil)
    (pss_cons (ps_asg (pv 0) (pg_tup rfl (pgs_cons (pg_name (i := 1) nd rfl (Or.inl rfl)) (pgs_cons (pg_name (i := 2) nd rfl (Or.inl rfl)) pgs_nil))))
    (pss_one (ps_ret (pe_and (pe_c (E := En) c_is_integer_1 (hr.mono (by decide)) paN (pa_cons (pv 1) pa_nil)) (pe_and (pe_c (E := En) c_is_integer_2 (hr.mono (by decide)) paN (pa_cons (pv 2) (pa_cons pe_int pa_nil))) (pe_one (pe_cmpR (op_uEq hr.r.units) (pe_callBfun call_uGcd (by rfl) T.g_gcd (pa_cons (pv 1) (pa_cons (pv 2) pa_nil))) pe_int (nomark _))))))))), ?_⟩
  walk_at "uk"
  walk_at "us"
  refine s_isTup hd ?_
  cases hd with
  | @tup a xs ds hs ha =>
    walk_at "ua"
    by_cases e2 : xs.length = 2
    · obtain ⟨x, y, rfl⟩ : ∃ x y, xs = [x, y] := by
        match xs, e2 with
        | [x, y], _ => exact ⟨x, y, rfl⟩
      cases ha with
      | @cons _ _ dx _ hx hr' =>
        cases hr' with
        | @cons _ _ dy _ hy hn =>
          cases hn
          walk_at "ua"
          refine s_gt hs rfl ?_
          walk_at "ua"
          refine ⟨x, dx, .non, none, rfl, hx, .inl ⟨rfl, rfl⟩, ?_⟩
          walk_at "us"
          refine s_itB (fun z1 => ?_) (fun z1 => ?_)
          · walk_at "us"
            refine ⟨y, dy, .int 1, some 1, rfl, hy, .inr ⟨1, rfl, rfl⟩, ?_⟩
            walk_at "us"
            refine s_itB (fun z2 => ?_) (fun z2 => ?_)
            · cases hx with
              | int n =>
                cases hy with
                | int e =>
                  walk_at "us"
                  rw [show isRatD (.tuple [.int n, .int e]) = (decide (1 ≤ e) && decide (Int.gcd n e = 1)) from rfl, show decide (1 ≤ e) = true from z2, Bool.true_and] at k
                  have q : decide ((Int.gcd n e : Int) = 1) = decide (Int.gcd n e = 1) := by
                    by_cases w : Int.gcd n e = 1 <;> simp [w] <;> omega
                  rw [q]
                  exact k
                | _ => cases z2
              | _ => cases z1
            · walk_at "us"
              have q : isRatD (.tuple [dx, dy]) = false := by
                cases hx with
                | int n =>
                  cases hy with
                  | int e => rw [show isRatD (.tuple [.int n, .int e]) = (decide (1 ≤ e) && decide (Int.gcd n e = 1)) from rfl, show decide (1 ≤ e) = false from z2, Bool.false_and]
                  | _ => rfl
                | _ => rfl
              rw [q] at k
              exact k
          · walk_at "us"
            have q : isRatD (.tuple [dx, dy]) = false := by
              cases hx with
              | int n => cases z1
              | _ => rfl
            rw [q] at k
            exact k
    · rw [decide_eq_false (by omega)]
      walk_at "ua"
      rw [isRat_ne (by rw [← dpa_len ha]; exact e2)] at k
      exact k
  | _ =>
    walk_at "ua"
    exact k
end
end Lw

set_option Elab.async false
set_option linter.all false
set_option maxRecDepth 100000
set_option maxHeartbeats 4000000
namespace Lw
open PySem PySem.Spec L2 Uv
open PyProof.Rows hiding St
local macro_rules | `(tactic| walk_at "umul") => `(tactic| fail)
local macro_rules | `(tactic| walk_at "us1") => `(tactic| first
  | (with_reducible refine s_seq ?_) | (with_reducible refine s_asg ?_) | (with_reducible refine s_gn ?_) | (with_reducible refine s_ret ?_) | (with_reducible refine s_drop ?_) | (with_reducible refine s_if ?_) | (with_reducible refine s_next ?_)
  | (with_reducible refine s_brk ?_) | (with_reducible refine s_cont ?_)
  | ((with_reducible refine' s_var ?hv ?_); (case hv => exact rfl)) | (with_reducible refine s_c ?_) | (with_reducible refine s_op ?_) | (with_reducible refine s_un ?_) | (with_reducible refine s_cb ?_) | (with_reducible refine s_call ?_)
  | (with_reducible refine s_cons ?_) | (with_reducible refine s_nil ?_) | (with_reducible refine s_test ?_) | (with_reducible refine s_tB ?_) | (with_reducible refine s_not ?_) | (with_reducible refine s_and ?_) | (with_reducible refine s_or ?_)
  | (with_reducible refine s_andV ?_) | (with_reducible refine s_orV ?_) | (with_reducible refine s_notV ?_) | (with_reducible refine s_ifE ?_) | (with_reducible refine s_bl ?_) | (with_reducible refine s_iT ?_) | (with_reducible refine s_iF ?_)
  | (with_reducible refine s_I0 ?_) | (with_reducible refine s_U ?_) | (with_reducible refine s_addI ?_) | (with_reducible refine s_eqI ?_) | (with_reducible refine s_eqS ?_) | (with_reducible refine s_eqB ?_) | (with_reducible refine s_neI ?_) | (with_reducible refine s_neS ?_) | (with_reducible refine s_neB ?_)
  | (with_reducible refine s_tupE ?_) | (with_reducible refine s_lstE ?_))
local macro_rules | `(tactic| walk_at "us") => `(tactic| repeat walk_at "us1")
local macro_rules | `(tactic| walk_at "ulen") => `(tactic| (intro vs H Q E h; repeat' (first | (obtain ⟨e, _⟩ := h; subst e; rfl) | (subst h; rfl) | (refine Or.elim h (fun h => ?_) (fun h => ?_)) | (obtain ⟨_, h⟩ := h))))
local macro_rules | `(tactic| walk_at "uk") => `(tactic| (try dsimp only [cxOf, Cx.suite, Cx.tr]))
local macro_rules | `(tactic| walk_at "us2") => `(tactic| first
  | walk_at "us1" | (with_reducible refine s_dput ?_) | ((with_reducible refine' s_mod ?hc ?_); (case hc => first | decide | assumption | omega))
  | (with_reducible refine s_for ?_) | (with_reducible refine s_lc ?_) | (with_reducible refine s_itl ?_) | (with_reducible refine s_itt ?_) | (with_reducible refine s_its ?_) | (with_reducible refine s_itr ?_) | (with_reducible refine s_itr2 ?_) | (with_reducible refine s_disp ?_) | (with_reducible refine s_prn ?_) | (with_reducible refine s_prc ?_) | (with_reducible refine s_m1 ?_) | (with_reducible refine s_isS ?_) | (with_reducible refine s_um1 ?_) | (with_reducible refine s_isB ?_) | (with_reducible refine s_isn ?_) | (with_reducible refine s_notn ?_) | (with_reducible refine s_jd ?_) | (with_reducible refine s_jn ?_) | (with_reducible refine s_jc ?_) | (with_reducible refine s_fmt ?_) | (with_reducible refine s_gc ?_) | (with_reducible refine s_gnil ?_) | (with_reducible refine s_yes ?_) | (with_reducible refine s_raise ?_)
  | ((with_reducible refine' s_pow ?hc ?_); (case hc => exact ⟨by decide, by decide, by decide⟩)) | (with_reducible refine s_int ?_) | (with_reducible refine s_intB ?_) | (with_reducible refine s_strS ?_) | (with_reducible refine s_abs ?_) | (with_reducible refine s_max ?_) | (with_reducible refine s_min ?_) | (with_reducible refine s_gcd ?_)
  | (with_reducible refine s_chain ?_) | (with_reducible refine s_sl ?_) | (with_reducible refine s_noP ?_) | (with_reducible refine s_part ?_) | (with_reducible refine s_exI ?_) 
  | ((with_reducible refine' s_mulI ?hc ?_); (case hc => first | exact Or.inl (Or.inr ⟨by decide, by decide⟩) | exact Or.inl (Or.inl ⟨by decide, by decide⟩) | exact Or.inl (Or.inl ⟨by omega, by omega⟩) | exact Or.inl (Or.inr ⟨by omega, by omega⟩) | walk_at "umul"))
  | ((with_reducible refine' s_ixT ?hc ?hd ?_); (case hc => assumption); (case hd => rfl))
  | ((with_reducible refine' s_lenL ?hc ?_); (case hc => first | assumption | exact SqL.of (by assumption))) | ((with_reducible refine' s_lenT ?hc ?_); (case hc => first | assumption | exact SqT.of (by assumption)))
  | ((with_reducible refine' s_divP ?hc ?hd ?_); (case hc => first | decide | assumption | omega); (case hd => first | decide +kernel | assumption)))
local macro_rules | `(tactic| walk_at "us") => `(tactic| repeat walk_at "us2")
local macro_rules | `(tactic| walk_at "uj") => `(tactic| ((walk_at "us"); with_reducible refine s_J ?_))
local macro_rules | `(tactic| walk_at "ua") => `(tactic| ((walk_at "us"); repeat ((first | (refine s_iF ?_) | (refine s_iT ?_)); (walk_at "us"))))
local macro_rules | `(tactic| walk_at "ub") => `(tactic| walk_at "ua")
local macro_rules | `(tactic| walk_at "umul") => `(tactic| exact Or.inr (mulB (by assumption) (by assumption)))
theorem rat_one_plus (a b : Int) : rN (a * 1) (1 * 1) = a ∧ rD a (1 * 1) = 1 := by
  have e : gN (a * 1) (1 * 1) = 1 := by unfold gN; rw [if_pos (by decide)]; simp
  have e2 : gN a (1 * 1) = 1 := by unfold gN; rw [if_pos (by decide)]; simp
  refine ⟨?_, ?_⟩
  · unfold rN; rw [e]; simp
  · unfold rD; rw [e2]; simp
section
variable {P : Program} {w : World} {K : PySem.W.Frag} {mg : Str → Option Value} {base : Heap}
variable {cE cB cN : Addr}
theorem ok_plus (T : Tp P K mg cE cB cN)
    (c_ratio_2 : Cal P w K mg base 1 "ratio" P_ratio [] (spRatio cN))
    {f : Addr} {fd : FuncData} {dvs : List V} (F : FunD K "plus" "plus" (defArgs s_plus) (defBody s_plus) (defScope s_plus) dvs [] f fd) : FnG P w K mg base 2 f fd P_plus (spPlus K) := by
  refine fng F sc_plus (by walk_at "ulen") (fun cdv A outer s H vs Q E hr0 hg0 h => ?_)
  have hr : Rm 1 (A.deeper (envOfC "plus" (defScope s_plus) s.heap.objs.size f cdv)) := ⟨hr0, hg0⟩
  have nd : N_plus.Nodup := sc_plus.nd
  obtain ⟨v, w, n1, d1, n2, d2, rfl, ⟨p1, rfl, h1⟩, ⟨p2, rfl, h2⟩, L1, L2, _, k⟩ := h
  obtain ⟨x1, x2, x3, x4⟩ : n1.natAbs ≤ big ∧ d1.natAbs ≤ big ∧ n2.natAbs ≤ big ∧ d2.natAbs ≤ big := ⟨L1.bn, L1.bd, L2.bn, L2.bd⟩
  refine ⟨_, (pss_cons (ps_if (PW.pt (pw_and (pt_cmpR (op_uEq hr.r.units) (pe_ix ix_seq (pv 0) pe_int (fun _ _ => rfl)) pe_int (nomark _)) (pw_and1 (pt_cmpR (op_uEq hr.r.units) (pe_ix ix_seq (pv 1) pe_int (fun _ _ => rfl)) pe_int (nomark _))))) (pss_one (ps_ret (pe_tup (pa_cons (pe_op op_uAdd (pe_ix ix_seq (pv 0) pe_int (fun _ _ => rfl)) (pe_ix ix_seq (pv 1) pe_int (fun _ _ => rfl))) (pa_cons pe_int pa_nil))))) pss_nil)
    (pss_one (ps_ret (pe_c (E := En) c_ratio_2 (hr.mono (by decide)) paN (pa_cons (pe_op op_uAdd (pe_op op_uMul (pe_ix ix_seq (pv 0) pe_int (fun _ _ => rfl)) (pe_ix ix_seq (pv 1) pe_int (fun _ _ => rfl))) (pe_op op_uMul (pe_ix ix_seq (pv 1) pe_int (fun _ _ => rfl)) (pe_ix ix_seq (pv 0) pe_int (fun _ _ => rfl)))) (pa_cons (pe_op op_uMul (pe_ix ix_seq (pv 0) pe_int (fun _ _ => rfl)) (pe_ix ix_seq (pv 1) pe_int (fun _ _ => rfl))) pa_nil)))))), ?_⟩
  walk_at "uk"
  walk_at "us"
  have fin : ¬ (d1 = 1 ∧ d2 = 1) → True := fun _ => trivial
  refine s_ite (fun e1 => ?_) (fun e1 => ?_)
  · walk_at "us"
    refine s_ite (fun e2 => ?_) (fun e2 => ?_)
    · subst e1 e2
      walk_at "us"
      refine s_szN (Nat.le_of_ble_eq_true rfl) fun p hp => ?_
      have r := rat_one_plus (n1 + n2) 0
      refine k p _ (exN hp) ?_
      rw [upd_same]
      have q : rN (n1 + n2) (1 * 1) = n1 + n2 := by have := r.1; rwa [Int.mul_one] at this
      simp only [Int.mul_one] at q r ⊢
      first | (rw [q, r.2]) | (simp only [q, r.2])
    · walk_at "us"
      exact ⟨_, _, rfl, md_add L1.bn L2.bd L2.bn L1.bd, md_mul L1.bd L2.bd, fun _ => k, fun z => absurd z (ne_mul L1.pos L2.pos)⟩
  · walk_at "us"
    exact ⟨_, _, rfl, md_add L1.bn L2.bd L2.bn L1.bd, md_mul L1.bd L2.bd, fun _ => k, fun z => absurd z (ne_mul L1.pos L2.pos)⟩
end
end Lw

set_option Elab.async false
set_option linter.all false
set_option maxRecDepth 100000
set_option maxHeartbeats 4000000
namespace Lw
open PySem PySem.Spec L2 Uv
open PyProof.Rows hiding St
local macro_rules | `(tactic| walk_at "umul") => `(tactic| fail)
local macro_rules | `(tactic| walk_at "us1") => `(tactic| first
  | (with_reducible refine s_seq ?_) | (with_reducible refine s_asg ?_) | (with_reducible refine s_gn ?_) | (with_reducible refine s_ret ?_) | (with_reducible refine s_drop ?_) | (with_reducible refine s_if ?_) | (with_reducible refine s_next ?_)
  | (with_reducible refine s_brk ?_) | (with_reducible refine s_cont ?_)
  | ((with_reducible refine' s_var ?hv ?_); (case hv => exact rfl)) | (with_reducible refine s_c ?_) | (with_reducible refine s_op ?_) | (with_reducible refine s_un ?_) | (with_reducible refine s_cb ?_) | (with_reducible refine s_call ?_)
  | (with_reducible refine s_cons ?_) | (with_reducible refine s_nil ?_) | (with_reducible refine s_test ?_) | (with_reducible refine s_tB ?_) | (with_reducible refine s_not ?_) | (with_reducible refine s_and ?_) | (with_reducible refine s_or ?_)
  | (with_reducible refine s_andV ?_) | (with_reducible refine s_orV ?_) | (with_reducible refine s_notV ?_) | (with_reducible refine s_ifE ?_) | (with_reducible refine s_bl ?_) | (with_reducible refine s_iT ?_) | (with_reducible refine s_iF ?_)
  | (with_reducible refine s_I0 ?_) | (with_reducible refine s_U ?_) | (with_reducible refine s_addI ?_) | (with_reducible refine s_eqI ?_) | (with_reducible refine s_eqS ?_) | (with_reducible refine s_eqB ?_) | (with_reducible refine s_neI ?_) | (with_reducible refine s_neS ?_) | (with_reducible refine s_neB ?_)
  | (with_reducible refine s_tupE ?_) | (with_reducible refine s_lstE ?_))
local macro_rules | `(tactic| walk_at "us") => `(tactic| repeat walk_at "us1")
local macro_rules | `(tactic| walk_at "ulen") => `(tactic| (intro vs H Q E h; repeat' (first | (obtain ⟨e, _⟩ := h; subst e; rfl) | (subst h; rfl) | (refine Or.elim h (fun h => ?_) (fun h => ?_)) | (obtain ⟨_, h⟩ := h))))
local macro_rules | `(tactic| walk_at "uk") => `(tactic| (try dsimp only [cxOf, Cx.suite, Cx.tr]))
local macro_rules | `(tactic| walk_at "us2") => `(tactic| first
  | walk_at "us1" | (with_reducible refine s_dput ?_) | ((with_reducible refine' s_mod ?hc ?_); (case hc => first | decide | assumption | omega))
  | (with_reducible refine s_for ?_) | (with_reducible refine s_lc ?_) | (with_reducible refine s_itl ?_) | (with_reducible refine s_itt ?_) | (with_reducible refine s_its ?_) | (with_reducible refine s_itr ?_) | (with_reducible refine s_itr2 ?_) | (with_reducible refine s_disp ?_) | (with_reducible refine s_prn ?_) | (with_reducible refine s_prc ?_) | (with_reducible refine s_m1 ?_) | (with_reducible refine s_isS ?_) | (with_reducible refine s_um1 ?_) | (with_reducible refine s_isB ?_) | (with_reducible refine s_isn ?_) | (with_reducible refine s_notn ?_) | (with_reducible refine s_jd ?_) | (with_reducible refine s_jn ?_) | (with_reducible refine s_jc ?_) | (with_reducible refine s_fmt ?_) | (with_reducible refine s_gc ?_) | (with_reducible refine s_gnil ?_) | (with_reducible refine s_yes ?_) | (with_reducible refine s_raise ?_)
  | ((with_reducible refine' s_pow ?hc ?_); (case hc => exact ⟨by decide, by decide, by decide⟩)) | (with_reducible refine s_int ?_) | (with_reducible refine s_intB ?_) | (with_reducible refine s_strS ?_) | (with_reducible refine s_abs ?_) | (with_reducible refine s_max ?_) | (with_reducible refine s_min ?_) | (with_reducible refine s_gcd ?_)
  | (with_reducible refine s_chain ?_) | (with_reducible refine s_sl ?_) | (with_reducible refine s_noP ?_) | (with_reducible refine s_part ?_) | (with_reducible refine s_exI ?_) 
  | ((with_reducible refine' s_mulI ?hc ?_); (case hc => first | exact Or.inl (Or.inr ⟨by decide, by decide⟩) | exact Or.inl (Or.inl ⟨by decide, by decide⟩) | exact Or.inl (Or.inl ⟨by omega, by omega⟩) | exact Or.inl (Or.inr ⟨by omega, by omega⟩) | walk_at "umul"))
  | ((with_reducible refine' s_ixT ?hc ?hd ?_); (case hc => assumption); (case hd => rfl))
  | ((with_reducible refine' s_lenL ?hc ?_); (case hc => first | assumption | exact SqL.of (by assumption))) | ((with_reducible refine' s_lenT ?hc ?_); (case hc => first | assumption | exact SqT.of (by assumption)))
  | ((with_reducible refine' s_divP ?hc ?hd ?_); (case hc => first | decide | assumption | omega); (case hd => first | decide +kernel | assumption)))
local macro_rules | `(tactic| walk_at "us") => `(tactic| repeat walk_at "us2")
local macro_rules | `(tactic| walk_at "uj") => `(tactic| ((walk_at "us"); with_reducible refine s_J ?_))
local macro_rules | `(tactic| walk_at "ua") => `(tactic| ((walk_at "us"); repeat ((first | (refine s_iF ?_) | (refine s_iT ?_)); (walk_at "us"))))
local macro_rules | `(tactic| walk_at "ub") => `(tactic| walk_at "ua")
local macro_rules | `(tactic| walk_at "umul") => `(tactic| exact Or.inr (mulB (by assumption) (by assumption)))
theorem rat_one_minus (a b : Int) : rN (a * 1) (1 * 1) = a ∧ rD a (1 * 1) = 1 := by
  have e : gN (a * 1) (1 * 1) = 1 := by unfold gN; rw [if_pos (by decide)]; simp
  have e2 : gN a (1 * 1) = 1 := by unfold gN; rw [if_pos (by decide)]; simp
  refine ⟨?_, ?_⟩
  · unfold rN; rw [e]; simp
  · unfold rD; rw [e2]; simp
section
variable {P : Program} {w : World} {K : PySem.W.Frag} {mg : Str → Option Value} {base : Heap}
variable {cE cB cN : Addr}
theorem ok_minus (T : Tp P K mg cE cB cN)
    (c_ratio_2 : Cal P w K mg base 1 "ratio" P_ratio [] (spRatio cN))
    {f : Addr} {fd : FuncData} {dvs : List V} (F : FunD K "minus" "minus" (defArgs s_minus) (defBody s_minus) (defScope s_minus) dvs [] f fd) : FnG P w K mg base 2 f fd P_minus (spMinus K) := by
  refine fng F sc_minus (by walk_at "ulen") (fun cdv A outer s H vs Q E hr0 hg0 h => ?_)
  have hr : Rm 1 (A.deeper (envOfC "minus" (defScope s_minus) s.heap.objs.size f cdv)) := ⟨hr0, hg0⟩
  have nd : N_minus.Nodup := sc_minus.nd
  obtain ⟨v, w, n1, d1, n2, d2, rfl, ⟨p1, rfl, h1⟩, ⟨p2, rfl, h2⟩, L1, L2, _, k⟩ := h
  obtain ⟨x1, x2, x3, x4⟩ : n1.natAbs ≤ big ∧ d1.natAbs ≤ big ∧ n2.natAbs ≤ big ∧ d2.natAbs ≤ big := ⟨L1.bn, L1.bd, L2.bn, L2.bd⟩
  refine ⟨_, (pss_cons (ps_if (PW.pt (pw_and (pt_cmpR (op_uEq hr.r.units) (pe_ix ix_seq (pv 0) pe_int (fun _ _ => rfl)) pe_int (nomark _)) (pw_and1 (pt_cmpR (op_uEq hr.r.units) (pe_ix ix_seq (pv 1) pe_int (fun _ _ => rfl)) pe_int (nomark _))))) (pss_one (ps_ret (pe_tup (pa_cons (pe_op op_sub (pe_ix ix_seq (pv 0) pe_int (fun _ _ => rfl)) (pe_ix ix_seq (pv 1) pe_int (fun _ _ => rfl))) (pa_cons pe_int pa_nil))))) pss_nil)
    (pss_one (ps_ret (pe_c (E := En) c_ratio_2 (hr.mono (by decide)) paN (pa_cons (pe_op op_sub (pe_op op_uMul (pe_ix ix_seq (pv 0) pe_int (fun _ _ => rfl)) (pe_ix ix_seq (pv 1) pe_int (fun _ _ => rfl))) (pe_op op_uMul (pe_ix ix_seq (pv 1) pe_int (fun _ _ => rfl)) (pe_ix ix_seq (pv 0) pe_int (fun _ _ => rfl)))) (pa_cons (pe_op op_uMul (pe_ix ix_seq (pv 0) pe_int (fun _ _ => rfl)) (pe_ix ix_seq (pv 1) pe_int (fun _ _ => rfl))) pa_nil)))))), ?_⟩
  walk_at "uk"
  walk_at "us"
  have fin : ¬ (d1 = 1 ∧ d2 = 1) → True := fun _ => trivial
  refine s_ite (fun e1 => ?_) (fun e1 => ?_)
  · walk_at "us"
    refine s_ite (fun e2 => ?_) (fun e2 => ?_)
    · subst e1 e2
      walk_at "us"
      refine s_szN (Nat.le_of_ble_eq_true rfl) fun p hp => ?_
      have r := rat_one_minus (n1 - n2) 0
      refine k p _ (exN hp) ?_
      rw [upd_same]
      have q : rN (n1 - n2) (1 * 1) = n1 - n2 := by have := r.1; rwa [Int.mul_one] at this
      simp only [Int.mul_one] at q r ⊢
      first | (rw [q, r.2]) | (simp only [q, r.2])
    · walk_at "us"
      exact ⟨_, _, rfl, md_sub L1.bn L2.bd L2.bn L1.bd, md_mul L1.bd L2.bd, fun _ => k, fun z => absurd z (ne_mul L1.pos L2.pos)⟩
  · walk_at "us"
    exact ⟨_, _, rfl, md_sub L1.bn L2.bd L2.bn L1.bd, md_mul L1.bd L2.bd, fun _ => k, fun z => absurd z (ne_mul L1.pos L2.pos)⟩
end
end Lw

set_option Elab.async false
set_option linter.all false
set_option maxRecDepth 100000
set_option maxHeartbeats 4000000
namespace Lw
open PySem PySem.Spec L2 Uv
open PyProof.Rows hiding St
local macro_rules | `(tactic| walk_at "umul") => `(tactic| fail)
local macro_rules | `(tactic| walk_at "us1") => `(tactic| first
  | (with_reducible refine s_seq ?_) | (with_reducible refine s_asg ?_) | (with_reducible refine s_gn ?_) | (with_reducible refine s_ret ?_) | (with_reducible refine s_drop ?_) | (with_reducible refine s_if ?_) | (with_reducible refine s_next ?_)
  | (with_reducible refine s_brk ?_) | (with_reducible refine s_cont ?_)
  | ((with_reducible refine' s_var ?hv ?_); (case hv => exact rfl)) | (with_reducible refine s_c ?_) | (with_reducible refine s_op ?_) | (with_reducible refine s_un ?_) | (with_reducible refine s_cb ?_) | (with_reducible refine s_call ?_)
  | (with_reducible refine s_cons ?_) | (with_reducible refine s_nil ?_) | (with_reducible refine s_test ?_) | (with_reducible refine s_tB ?_) | (with_reducible refine s_not ?_) | (with_reducible refine s_and ?_) | (with_reducible refine s_or ?_)
  | (with_reducible refine s_andV ?_) | (with_reducible refine s_orV ?_) | (with_reducible refine s_notV ?_) | (with_reducible refine s_ifE ?_) | (with_reducible refine s_bl ?_) | (with_reducible refine s_iT ?_) | (with_reducible refine s_iF ?_)
  | (with_reducible refine s_I0 ?_) | (with_reducible refine s_U ?_) | (with_reducible refine s_addI ?_) | (with_reducible refine s_eqI ?_) | (with_reducible refine s_eqS ?_) | (with_reducible refine s_eqB ?_) | (with_reducible refine s_neI ?_) | (with_reducible refine s_neS ?_) | (with_reducible refine s_neB ?_)
  | (with_reducible refine s_tupE ?_) | (with_reducible refine s_lstE ?_))
local macro_rules | `(tactic| walk_at "us") => `(tactic| repeat walk_at "us1")
local macro_rules | `(tactic| walk_at "ulen") => `(tactic| (intro vs H Q E h; repeat' (first | (obtain ⟨e, _⟩ := h; subst e; rfl) | (subst h; rfl) | (refine Or.elim h (fun h => ?_) (fun h => ?_)) | (obtain ⟨_, h⟩ := h))))
local macro_rules | `(tactic| walk_at "uk") => `(tactic| (try dsimp only [cxOf, Cx.suite, Cx.tr]))
local macro_rules | `(tactic| walk_at "us2") => `(tactic| first
  | walk_at "us1" | (with_reducible refine s_dput ?_) | ((with_reducible refine' s_mod ?hc ?_); (case hc => first | decide | assumption | omega))
  | (with_reducible refine s_for ?_) | (with_reducible refine s_lc ?_) | (with_reducible refine s_itl ?_) | (with_reducible refine s_itt ?_) | (with_reducible refine s_its ?_) | (with_reducible refine s_itr ?_) | (with_reducible refine s_itr2 ?_) | (with_reducible refine s_disp ?_) | (with_reducible refine s_prn ?_) | (with_reducible refine s_prc ?_) | (with_reducible refine s_m1 ?_) | (with_reducible refine s_isS ?_) | (with_reducible refine s_um1 ?_) | (with_reducible refine s_isB ?_) | (with_reducible refine s_isn ?_) | (with_reducible refine s_notn ?_) | (with_reducible refine s_jd ?_) | (with_reducible refine s_jn ?_) | (with_reducible refine s_jc ?_) | (with_reducible refine s_fmt ?_) | (with_reducible refine s_gc ?_) | (with_reducible refine s_gnil ?_) | (with_reducible refine s_yes ?_) | (with_reducible refine s_raise ?_)
  | ((with_reducible refine' s_pow ?hc ?_); (case hc => exact ⟨by decide, by decide, by decide⟩)) | (with_reducible refine s_int ?_) | (with_reducible refine s_intB ?_) | (with_reducible refine s_strS ?_) | (with_reducible refine s_abs ?_) | (with_reducible refine s_max ?_) | (with_reducible refine s_min ?_) | (with_reducible refine s_gcd ?_)
  | (with_reducible refine s_chain ?_) | (with_reducible refine s_sl ?_) | (with_reducible refine s_noP ?_) | (with_reducible refine s_part ?_) | (with_reducible refine s_exI ?_) 
  | ((with_reducible refine' s_mulI ?hc ?_); (case hc => first | exact Or.inl (Or.inr ⟨by decide, by decide⟩) | exact Or.inl (Or.inl ⟨by decide, by decide⟩) | exact Or.inl (Or.inl ⟨by omega, by omega⟩) | exact Or.inl (Or.inr ⟨by omega, by omega⟩) | walk_at "umul"))
  | ((with_reducible refine' s_ixT ?hc ?hd ?_); (case hc => assumption); (case hd => rfl))
  | ((with_reducible refine' s_lenL ?hc ?_); (case hc => first | assumption | exact SqL.of (by assumption))) | ((with_reducible refine' s_lenT ?hc ?_); (case hc => first | assumption | exact SqT.of (by assumption)))
  | ((with_reducible refine' s_divP ?hc ?hd ?_); (case hc => first | decide | assumption | omega); (case hd => first | decide +kernel | assumption)))
local macro_rules | `(tactic| walk_at "us") => `(tactic| repeat walk_at "us2")
local macro_rules | `(tactic| walk_at "uj") => `(tactic| ((walk_at "us"); with_reducible refine s_J ?_))
local macro_rules | `(tactic| walk_at "ua") => `(tactic| ((walk_at "us"); repeat ((first | (refine s_iF ?_) | (refine s_iT ?_)); (walk_at "us"))))
local macro_rules | `(tactic| walk_at "ub") => `(tactic| walk_at "ua")
local macro_rules | `(tactic| walk_at "umul") => `(tactic| exact Or.inr (mulB (by assumption) (by assumption)))
theorem rat_one_times (a b : Int) : rN (a * 1) (1 * 1) = a ∧ rD a (1 * 1) = 1 := by
  have e : gN (a * 1) (1 * 1) = 1 := by unfold gN; rw [if_pos (by decide)]; simp
  have e2 : gN a (1 * 1) = 1 := by unfold gN; rw [if_pos (by decide)]; simp
  refine ⟨?_, ?_⟩
  · unfold rN; rw [e]; simp
  · unfold rD; rw [e2]; simp
section
variable {P : Program} {w : World} {K : PySem.W.Frag} {mg : Str → Option Value} {base : Heap}
variable {cE cB cN : Addr}
theorem ok_times (T : Tp P K mg cE cB cN)
    (c_ratio_2 : Cal P w K mg base 1 "ratio" P_ratio [] (spRatio cN))
    {f : Addr} {fd : FuncData} {dvs : List V} (F : FunD K "times" "times" (defArgs s_times) (defBody s_times) (defScope s_times) dvs [] f fd) : FnG P w K mg base 2 f fd P_times (spTimes K) := by
  refine fng F sc_times (by walk_at "ulen") (fun cdv A outer s H vs Q E hr0 hg0 h => ?_)
  have hr : Rm 1 (A.deeper (envOfC "times" (defScope s_times) s.heap.objs.size f cdv)) := ⟨hr0, hg0⟩
  have nd : N_times.Nodup := sc_times.nd
  obtain ⟨v, w, n1, d1, n2, d2, rfl, ⟨p1, rfl, h1⟩, ⟨p2, rfl, h2⟩, L1, L2, _, k⟩ := h
  obtain ⟨x1, x2, x3, x4⟩ : n1.natAbs ≤ big ∧ d1.natAbs ≤ big ∧ n2.natAbs ≤ big ∧ d2.natAbs ≤ big := ⟨L1.bn, L1.bd, L2.bn, L2.bd⟩
  refine ⟨_, (pss_cons (ps_if (PW.pt (pw_and (pt_cmpR (op_uEq hr.r.units) (pe_ix ix_seq (pv 0) pe_int (fun _ _ => rfl)) pe_int (nomark _)) (pw_and1 (pt_cmpR (op_uEq hr.r.units) (pe_ix ix_seq (pv 1) pe_int (fun _ _ => rfl)) pe_int (nomark _))))) (pss_one (ps_ret (pe_tup (pa_cons (pe_op op_uMul (pe_ix ix_seq (pv 0) pe_int (fun _ _ => rfl)) (pe_ix ix_seq (pv 1) pe_int (fun _ _ => rfl))) (pa_cons pe_int pa_nil))))) pss_nil)
    (pss_one (ps_ret (pe_c (E := En) c_ratio_2 (hr.mono (by decide)) paN (pa_cons (pe_op op_uMul (pe_ix ix_seq (pv 0) pe_int (fun _ _ => rfl)) (pe_ix ix_seq (pv 1) pe_int (fun _ _ => rfl))) (pa_cons (pe_op op_uMul (pe_ix ix_seq (pv 0) pe_int (fun _ _ => rfl)) (pe_ix ix_seq (pv 1) pe_int (fun _ _ => rfl))) pa_nil)))))), ?_⟩
  walk_at "uk"
  walk_at "us"
  have fin : ¬ (d1 = 1 ∧ d2 = 1) → True := fun _ => trivial
  refine s_ite (fun e1 => ?_) (fun e1 => ?_)
  · walk_at "us"
    refine s_ite (fun e2 => ?_) (fun e2 => ?_)
    · subst e1 e2
      walk_at "us"
      refine s_szN (Nat.le_of_ble_eq_true rfl) fun p hp => ?_
      have r := rat_one_times (n1 * n2) 0
      refine k p _ (exN hp) ?_
      rw [upd_same]
      have q : rN (n1 * n2) (1 * 1) = n1 * n2 := by have := r.1; rwa [Int.mul_one] at this
      simp only [Int.mul_one] at q r ⊢
      first | (rw [q, r.2]) | (simp only [q, r.2])
    · walk_at "us"
      exact ⟨_, _, rfl, md_mul L1.bn L2.bn, md_mul L1.bd L2.bd, fun _ => k, fun z => absurd z (ne_mul L1.pos L2.pos)⟩
  · walk_at "us"
    exact ⟨_, _, rfl, md_mul L1.bn L2.bn, md_mul L1.bd L2.bd, fun _ => k, fun z => absurd z (ne_mul L1.pos L2.pos)⟩
end
end Lw

set_option Elab.async false
set_option linter.all false
set_option maxRecDepth 100000
set_option maxHeartbeats 4000000
namespace Lw
open PySem PySem.Spec L2 Uv
open PyProof.Rows hiding St
local macro_rules | `(tactic| walk_at "umul") => `(tactic| fail)
local macro_rules | `(tactic| walk_at "us1") => `(tactic| first
  | (with_reducible refine s_seq ?_) | (with_reducible refine s_asg ?_) | (with_reducible refine s_gn ?_) | (with_reducible refine s_ret ?_) | (with_reducible refine s_drop ?_) | (with_reducible refine s_if ?_) | (with_reducible refine s_next ?_)
  | (with_reducible refine s_brk ?_) | (with_reducible refine s_cont ?_)
  | ((with_reducible refine' s_var ?hv ?_); (case hv => exact rfl)) | (with_reducible refine s_c ?_) | (with_reducible refine s_op ?_) | (with_reducible refine s_un ?_) | (with_reducible refine s_cb ?_) | (with_reducible refine s_call ?_)
  | (with_reducible refine s_cons ?_) | (with_reducible refine s_nil ?_) | (with_reducible refine s_test ?_) | (with_reducible refine s_tB ?_) | (with_reducible refine s_not ?_) | (with_reducible refine s_and ?_) | (with_reducible refine s_or ?_)
  | (with_reducible refine s_andV ?_) | (with_reducible refine s_orV ?_) | (with_reducible refine s_notV ?_) | (with_reducible refine s_ifE ?_) | (with_reducible refine s_bl ?_) | (with_reducible refine s_iT ?_) | (with_reducible refine s_iF ?_)
  | (with_reducible refine s_I0 ?_) | (with_reducible refine s_U ?_) | (with_reducible refine s_addI ?_) | (with_reducible refine s_eqI ?_) | (with_reducible refine s_eqS ?_) | (with_reducible refine s_eqB ?_) | (with_reducible refine s_neI ?_) | (with_reducible refine s_neS ?_) | (with_reducible refine s_neB ?_)
  | (with_reducible refine s_tupE ?_) | (with_reducible refine s_lstE ?_))
local macro_rules | `(tactic| walk_at "us") => `(tactic| repeat walk_at "us1")
local macro_rules | `(tactic| walk_at "ulen") => `(tactic| (intro vs H Q E h; repeat' (first | (obtain ⟨e, _⟩ := h; subst e; rfl) | (subst h; rfl) | (refine Or.elim h (fun h => ?_) (fun h => ?_)) | (obtain ⟨_, h⟩ := h))))
local macro_rules | `(tactic| walk_at "uk") => `(tactic| (try dsimp only [cxOf, Cx.suite, Cx.tr]))
local macro_rules | `(tactic| walk_at "us2") => `(tactic| first
  | walk_at "us1" | (with_reducible refine s_dput ?_) | ((with_reducible refine' s_mod ?hc ?_); (case hc => first | decide | assumption | omega))
  | (with_reducible refine s_for ?_) | (with_reducible refine s_lc ?_) | (with_reducible refine s_itl ?_) | (with_reducible refine s_itt ?_) | (with_reducible refine s_its ?_) | (with_reducible refine s_itr ?_) | (with_reducible refine s_itr2 ?_) | (with_reducible refine s_disp ?_) | (with_reducible refine s_prn ?_) | (with_reducible refine s_prc ?_) | (with_reducible refine s_m1 ?_) | (with_reducible refine s_isS ?_) | (with_reducible refine s_um1 ?_) | (with_reducible refine s_isB ?_) | (with_reducible refine s_isn ?_) | (with_reducible refine s_notn ?_) | (with_reducible refine s_jd ?_) | (with_reducible refine s_jn ?_) | (with_reducible refine s_jc ?_) | (with_reducible refine s_fmt ?_) | (with_reducible refine s_gc ?_) | (with_reducible refine s_gnil ?_) | (with_reducible refine s_yes ?_) | (with_reducible refine s_raise ?_)
  | ((with_reducible refine' s_pow ?hc ?_); (case hc => exact ⟨by decide, by decide, by decide⟩)) | (with_reducible refine s_int ?_) | (with_reducible refine s_intB ?_) | (with_reducible refine s_strS ?_) | (with_reducible refine s_abs ?_) | (with_reducible refine s_max ?_) | (with_reducible refine s_min ?_) | (with_reducible refine s_gcd ?_)
  | (with_reducible refine s_chain ?_) | (with_reducible refine s_sl ?_) | (with_reducible refine s_noP ?_) | (with_reducible refine s_part ?_) | (with_reducible refine s_exI ?_) 
  | ((with_reducible refine' s_mulI ?hc ?_); (case hc => first | exact Or.inl (Or.inr ⟨by decide, by decide⟩) | exact Or.inl (Or.inl ⟨by decide, by decide⟩) | exact Or.inl (Or.inl ⟨by omega, by omega⟩) | exact Or.inl (Or.inr ⟨by omega, by omega⟩) | walk_at "umul"))
  | ((with_reducible refine' s_ixT ?hc ?hd ?_); (case hc => assumption); (case hd => rfl))
  | ((with_reducible refine' s_lenL ?hc ?_); (case hc => first | assumption | exact SqL.of (by assumption))) | ((with_reducible refine' s_lenT ?hc ?_); (case hc => first | assumption | exact SqT.of (by assumption)))
  | ((with_reducible refine' s_divP ?hc ?hd ?_); (case hc => first | decide | assumption | omega); (case hd => first | decide +kernel | assumption)))
local macro_rules | `(tactic| walk_at "us") => `(tactic| repeat walk_at "us2")
local macro_rules | `(tactic| walk_at "uj") => `(tactic| ((walk_at "us"); with_reducible refine s_J ?_))
local macro_rules | `(tactic| walk_at "ua") => `(tactic| ((walk_at "us"); repeat ((first | (refine s_iF ?_) | (refine s_iT ?_)); (walk_at "us"))))
local macro_rules | `(tactic| walk_at "ub") => `(tactic| walk_at "ua")
local macro_rules | `(tactic| walk_at "umul") => `(tactic| exact Or.inr (mulB (by assumption) (by assumption)))
section
variable {P : Program} {w : World} {K : PySem.W.Frag} {mg : Str → Option Value} {base : Heap}
variable {cE cB cN : Addr}
theorem ok_over (T : Tp P K mg cE cB cN)
    (c_ratio_2 : Cal P w K mg base 1 "ratio" P_ratio [] (spRatio cN))
    {f : Addr} {fd : FuncData} {dvs : List V} (F : FunD K "over" "over" (defArgs s_over) (defBody s_over) (defScope s_over) dvs [] f fd) : FnG P w K mg base 2 f fd P_over (spOver K cN) := by
  refine fng F sc_over (by walk_at "ulen") (fun cdv A outer s H vs Q E hr0 hg0 h => ?_)
  have hr : Rm 1 (A.deeper (envOfC "over" (defScope s_over) s.heap.objs.size f cdv)) := ⟨hr0, hg0⟩
  have nd : N_over.Nodup := sc_over.nd
  have tk : Takes (cxOf (L2.CX P w) P w K mg base N_over "over" (defScope s_over) f cdv A outer s H E) (fun cls d _ H => E cls d H) := takes_of rfl rfl rfl rfl
  obtain ⟨v, w, n1, d1, n2, d2, rfl, ⟨p1, rfl, h1⟩, ⟨p2, rfl, h2⟩, L1, L2, k, kx⟩ := h
  obtain ⟨x1, x2, x3, x4⟩ : n1.natAbs ≤ big ∧ d1.natAbs ≤ big ∧ n2.natAbs ≤ big ∧ d2.natAbs ≤ big := ⟨L1.bn, L1.bd, L2.bn, L2.bd⟩
  refine ⟨_, (pss_cons (ps_if (pt_cmpR (op_uEq hr.r.units) (pe_ix ix_seq (pv 1) pe_int (fun _ _ => rfl)) pe_int (nomark _)) (pss_one (ps_raiseX rfl T.x_Nought hr.r tk (by decide) (by decide) (pa_cons (pv 0) pa_nil))) pss_nil)
    (pss_one (ps_ret (pe_c c_ratio_2 (hr.mono (by decide)) (fun σ => passAt tk σ) (pa_cons (pe_op op_uMul (pe_ix ix_seq (pv 0) pe_int (fun _ _ => rfl)) (pe_ix ix_seq (pv 1) pe_int (fun _ _ => rfl))) (pa_cons (pe_op op_uMul (pe_ix ix_seq (pv 0) pe_int (fun _ _ => rfl)) (pe_ix ix_seq (pv 1) pe_int (fun _ _ => rfl))) pa_nil)))))), ?_⟩
  walk_at "uk"
  walk_at "us"
  refine s_ite (fun hz => ?_) (fun hz => ?_)
  · walk_at "us"
    refine ⟨rfl, fun e he => ?_⟩
    exact kx hz e _ (exN he) upd_same
  walk_at "us"
  have nz : d1 * n2 ≠ 0 := Int.mul_ne_zero (Int.ne_of_gt L1.pos) hz
  exact ⟨_, _, rfl, md_mul L1.bn L2.bd, md_mul L1.bd L2.bn, fun _ => k hz, fun z => absurd z nz⟩
end
end Lw

set_option Elab.async false
set_option linter.all false
set_option maxRecDepth 100000
set_option maxHeartbeats 4000000
namespace Lw
open PySem PySem.Spec L2 Uv
open PyProof.Rows hiding St
local macro_rules | `(tactic| walk_at "umul") => `(tactic| fail)
local macro_rules | `(tactic| walk_at "us1") => `(tactic| first
  | (with_reducible refine s_seq ?_) | (with_reducible refine s_asg ?_) | (with_reducible refine s_gn ?_) | (with_reducible refine s_ret ?_) | (with_reducible refine s_drop ?_) | (with_reducible refine s_if ?_) | (with_reducible refine s_next ?_)
  | (with_reducible refine s_brk ?_) | (with_reducible refine s_cont ?_)
  | ((with_reducible refine' s_var ?hv ?_); (case hv => exact rfl)) | (with_reducible refine s_c ?_) | (with_reducible refine s_op ?_) | (with_reducible refine s_un ?_) | (with_reducible refine s_cb ?_) | (with_reducible refine s_call ?_)
  | (with_reducible refine s_cons ?_) | (with_reducible refine s_nil ?_) | (with_reducible refine s_test ?_) | (with_reducible refine s_tB ?_) | (with_reducible refine s_not ?_) | (with_reducible refine s_and ?_) | (with_reducible refine s_or ?_)
  | (with_reducible refine s_andV ?_) | (with_reducible refine s_orV ?_) | (with_reducible refine s_notV ?_) | (with_reducible refine s_ifE ?_) | (with_reducible refine s_bl ?_) | (with_reducible refine s_iT ?_) | (with_reducible refine s_iF ?_)
  | (with_reducible refine s_I0 ?_) | (with_reducible refine s_U ?_) | (with_reducible refine s_addI ?_) | (with_reducible refine s_eqI ?_) | (with_reducible refine s_eqS ?_) | (with_reducible refine s_eqB ?_) | (with_reducible refine s_neI ?_) | (with_reducible refine s_neS ?_) | (with_reducible refine s_neB ?_)
  | (with_reducible refine s_tupE ?_) | (with_reducible refine s_lstE ?_))
local macro_rules | `(tactic| walk_at "us") => `(tactic| repeat walk_at "us1")
local macro_rules | `(tactic| walk_at "ulen") => `(tactic| (intro vs H Q E h; repeat' (first | (obtain ⟨e, _⟩ := h; subst e; rfl) | (subst h; rfl) | (refine Or.elim h (fun h => ?_) (fun h => ?_)) | (obtain ⟨_, h⟩ := h))))
local macro_rules | `(tactic| walk_at "uk") => `(tactic| (try dsimp only [cxOf, Cx.suite, Cx.tr]))
local macro_rules | `(tactic| walk_at "us2") => `(tactic| first
  | walk_at "us1" | (with_reducible refine s_dput ?_) | ((with_reducible refine' s_mod ?hc ?_); (case hc => first | decide | assumption | omega))
  | (with_reducible refine s_for ?_) | (with_reducible refine s_lc ?_) | (with_reducible refine s_itl ?_) | (with_reducible refine s_itt ?_) | (with_reducible refine s_its ?_) | (with_reducible refine s_itr ?_) | (with_reducible refine s_itr2 ?_) | (with_reducible refine s_disp ?_) | (with_reducible refine s_prn ?_) | (with_reducible refine s_prc ?_) | (with_reducible refine s_m1 ?_) | (with_reducible refine s_isS ?_) | (with_reducible refine s_um1 ?_) | (with_reducible refine s_isB ?_) | (with_reducible refine s_isn ?_) | (with_reducible refine s_notn ?_) | (with_reducible refine s_jd ?_) | (with_reducible refine s_jn ?_) | (with_reducible refine s_jc ?_) | (with_reducible refine s_fmt ?_) | (with_reducible refine s_gc ?_) | (with_reducible refine s_gnil ?_) | (with_reducible refine s_yes ?_) | (with_reducible refine s_raise ?_)
  | ((with_reducible refine' s_pow ?hc ?_); (case hc => exact ⟨by decide, by decide, by decide⟩)) | (with_reducible refine s_int ?_) | (with_reducible refine s_intB ?_) | (with_reducible refine s_strS ?_) | (with_reducible refine s_abs ?_) | (with_reducible refine s_max ?_) | (with_reducible refine s_min ?_) | (with_reducible refine s_gcd ?_)
  | (with_reducible refine s_chain ?_) | (with_reducible refine s_sl ?_) | (with_reducible refine s_noP ?_) | (with_reducible refine s_part ?_) | (with_reducible refine s_exI ?_) 
  | ((with_reducible refine' s_mulI ?hc ?_); (case hc => first | exact Or.inl (Or.inr ⟨by decide, by decide⟩) | exact Or.inl (Or.inl ⟨by decide, by decide⟩) | exact Or.inl (Or.inl ⟨by omega, by omega⟩) | exact Or.inl (Or.inr ⟨by omega, by omega⟩) | walk_at "umul"))
  | ((with_reducible refine' s_ixT ?hc ?hd ?_); (case hc => assumption); (case hd => rfl))
  | ((with_reducible refine' s_lenL ?hc ?_); (case hc => first | assumption | exact SqL.of (by assumption))) | ((with_reducible refine' s_lenT ?hc ?_); (case hc => first | assumption | exact SqT.of (by assumption)))
  | ((with_reducible refine' s_divP ?hc ?hd ?_); (case hc => first | decide | assumption | omega); (case hd => first | decide +kernel | assumption)))
local macro_rules | `(tactic| walk_at "us") => `(tactic| repeat walk_at "us2")
local macro_rules | `(tactic| walk_at "uj") => `(tactic| ((walk_at "us"); with_reducible refine s_J ?_))
local macro_rules | `(tactic| walk_at "ua") => `(tactic| ((walk_at "us"); repeat ((first | (refine s_iF ?_) | (refine s_iT ?_)); (walk_at "us"))))
local macro_rules | `(tactic| walk_at "ub") => `(tactic| walk_at "ua")
local macro_rules | `(tactic| walk_at "umul") => `(tactic| exact Or.inr (mulB (by assumption) (by assumption)))
section
variable {P : Program} {w : World} {K : PySem.W.Frag} {mg : Str → Option Value} {base : Heap}
variable {cE cB cN : Addr}
theorem ok_compare (T : Tp P K mg cE cB cN)
    {f : Addr} {fd : FuncData} {dvs : List V} (F : FunD K "compare" "compare" (defArgs s_compare) (defBody s_compare) (defScope s_compare) dvs [] f fd) : FnG P w K mg base 1 f fd P_compare (spCompare K) := by
  refine fng F sc_compare (by walk_at "ulen") (fun cdv A outer s H vs Q E hr0 hg0 h => ?_)
  have hr : Rm 0 (A.deeper (envOfC "compare" (defScope s_compare) s.heap.objs.size f cdv)) := ⟨hr0, hg0⟩
  have nd : N_compare.Nodup := sc_compare.nd
  obtain ⟨v, w, n1, d1, n2, d2, rfl, ⟨p1, rfl, h1⟩, ⟨p2, rfl, h2⟩, L1, L2, k⟩ := h
  obtain ⟨x1, x2, x3, x4⟩ : n1.natAbs ≤ big ∧ d1.natAbs ≤ big ∧ n2.natAbs ≤ big ∧ d2.natAbs ≤ big := ⟨L1.bn, L1.bd, L2.bn, L2.bd⟩
  refine ⟨_, (pss_cons (ps_set (i := 2) nd rfl (Or.inl rfl) (pe_op op_uMul (pe_ix ix_seq (pv 0) pe_int (fun _ _ => rfl)) (pe_ix ix_seq (pv 1) pe_int (fun _ _ => rfl))))
    (pss_cons (ps_set (i := 3) nd rfl (Or.inl rfl) (pe_op op_uMul (pe_ix ix_seq (pv 1) pe_int (fun _ _ => rfl)) (pe_ix ix_seq (pv 0) pe_int (fun _ _ => rfl))))
    (pss_cons (ps_if (pt_cmpR op_lt (pv 2) (pv 3) (nomark _)) (pss_one (ps_ret (pe_un un_neg pe_int))) pss_nil)
    (pss_cons (ps_if (pt_cmpR op_gt (pv 2) (pv 3) (nomark _)) (pss_one (ps_ret pe_int)) pss_nil)
    (pss_one (ps_ret pe_int)))))), ?_⟩
  walk_at "uk"
  walk_at "us"
  refine s_ite (fun hz => ?_) (fun hz => ?_)
  · walk_at "us"
    rw [if_pos hz] at k
    exact k
  walk_at "us"
  rw [if_neg hz] at k
  refine s_ite (fun hy => ?_) (fun hy => ?_)
  · walk_at "us"
    rw [if_pos hy] at k
    exact k
  walk_at "us"
  rw [if_neg hy] at k
  exact k
end
end Lw

set_option Elab.async false
set_option linter.all false
set_option maxRecDepth 100000
set_option maxHeartbeats 4000000
namespace Lw
open PySem PySem.Spec L2 Uv
open PyProof.Rows hiding St
local macro_rules | `(tactic| walk_at "umul") => `(tactic| fail)
local macro_rules | `(tactic| walk_at "us1") => `(tactic| first
  | (with_reducible refine s_seq ?_) | (with_reducible refine s_asg ?_) | (with_reducible refine s_gn ?_) | (with_reducible refine s_ret ?_) | (with_reducible refine s_drop ?_) | (with_reducible refine s_if ?_) | (with_reducible refine s_next ?_)
  | (with_reducible refine s_brk ?_) | (with_reducible refine s_cont ?_)
  | ((with_reducible refine' s_var ?hv ?_); (case hv => exact rfl)) | (with_reducible refine s_c ?_) | (with_reducible refine s_op ?_) | (with_reducible refine s_un ?_) | (with_reducible refine s_cb ?_) | (with_reducible refine s_call ?_)
  | (with_reducible refine s_cons ?_) | (with_reducible refine s_nil ?_) | (with_reducible refine s_test ?_) | (with_reducible refine s_tB ?_) | (with_reducible refine s_not ?_) | (with_reducible refine s_and ?_) | (with_reducible refine s_or ?_)
  | (with_reducible refine s_andV ?_) | (with_reducible refine s_orV ?_) | (with_reducible refine s_notV ?_) | (with_reducible refine s_ifE ?_) | (with_reducible refine s_bl ?_) | (with_reducible refine s_iT ?_) | (with_reducible refine s_iF ?_)
  | (with_reducible refine s_I0 ?_) | (with_reducible refine s_U ?_) | (with_reducible refine s_addI ?_) | (with_reducible refine s_eqI ?_) | (with_reducible refine s_eqS ?_) | (with_reducible refine s_eqB ?_) | (with_reducible refine s_neI ?_) | (with_reducible refine s_neS ?_) | (with_reducible refine s_neB ?_)
  | (with_reducible refine s_tupE ?_) | (with_reducible refine s_lstE ?_))
local macro_rules | `(tactic| walk_at "us") => `(tactic| repeat walk_at "us1")
local macro_rules | `(tactic| walk_at "ulen") => `(tactic| (intro vs H Q E h; repeat' (first | (obtain ⟨e, _⟩ := h; subst e; rfl) | (subst h; rfl) | (refine Or.elim h (fun h => ?_) (fun h => ?_)) | (obtain ⟨_, h⟩ := h))))
local macro_rules | `(tactic| walk_at "uk") => `(tactic| (try dsimp only [cxOf, Cx.suite, Cx.tr]))
local macro_rules | `(tactic| walk_at "us2") => `(tactic| first
  | walk_at "us1" | (with_reducible refine s_dput ?_) | ((with_reducible refine' s_mod ?hc ?_); (case hc => first | decide | assumption | omega))
  | (with_reducible refine s_for ?_) | (with_reducible refine s_lc ?_) | (with_reducible refine s_itl ?_) | (with_reducible refine s_itt ?_) | (with_reducible refine s_its ?_) | (with_reducible refine s_itr ?_) | (with_reducible refine s_itr2 ?_) | (with_reducible refine s_disp ?_) | (with_reducible refine s_prn ?_) | (with_reducible refine s_prc ?_) | (with_reducible refine s_m1 ?_) | (with_reducible refine s_isS ?_) | (with_reducible refine s_um1 ?_) | (with_reducible refine s_isB ?_) | (with_reducible refine s_isn ?_) | (with_reducible refine s_notn ?_) | (with_reducible refine s_jd ?_) | (with_reducible refine s_jn ?_) | (with_reducible refine s_jc ?_) | (with_reducible refine s_fmt ?_) | (with_reducible refine s_gc ?_) | (with_reducible refine s_gnil ?_) | (with_reducible refine s_yes ?_) | (with_reducible refine s_raise ?_)
  | ((with_reducible refine' s_pow ?hc ?_); (case hc => exact ⟨by decide, by decide, by decide⟩)) | (with_reducible refine s_int ?_) | (with_reducible refine s_intB ?_) | (with_reducible refine s_strS ?_) | (with_reducible refine s_abs ?_) | (with_reducible refine s_max ?_) | (with_reducible refine s_min ?_) | (with_reducible refine s_gcd ?_)
  | (with_reducible refine s_chain ?_) | (with_reducible refine s_sl ?_) | (with_reducible refine s_noP ?_) | (with_reducible refine s_part ?_) | (with_reducible refine s_exI ?_) 
  | ((with_reducible refine' s_mulI ?hc ?_); (case hc => first | exact Or.inl (Or.inr ⟨by decide, by decide⟩) | exact Or.inl (Or.inl ⟨by decide, by decide⟩) | exact Or.inl (Or.inl ⟨by omega, by omega⟩) | exact Or.inl (Or.inr ⟨by omega, by omega⟩) | walk_at "umul"))
  | ((with_reducible refine' s_ixT ?hc ?hd ?_); (case hc => assumption); (case hd => rfl))
  | ((with_reducible refine' s_lenL ?hc ?_); (case hc => first | assumption | exact SqL.of (by assumption))) | ((with_reducible refine' s_lenT ?hc ?_); (case hc => first | assumption | exact SqT.of (by assumption)))
  | ((with_reducible refine' s_divP ?hc ?hd ?_); (case hc => first | decide | assumption | omega); (case hd => first | decide +kernel | assumption)))
local macro_rules | `(tactic| walk_at "us") => `(tactic| repeat walk_at "us2")
local macro_rules | `(tactic| walk_at "uj") => `(tactic| ((walk_at "us"); with_reducible refine s_J ?_))
local macro_rules | `(tactic| walk_at "ua") => `(tactic| ((walk_at "us"); repeat ((first | (refine s_iF ?_) | (refine s_iT ?_)); (walk_at "us"))))
local macro_rules | `(tactic| walk_at "ub") => `(tactic| walk_at "ua")
local macro_rules | `(tactic| walk_at "umul") => `(tactic| exact Or.inr (mulB (by assumption) (by assumption)))
section
variable {P : Program} {w : World} {K : PySem.W.Frag} {mg : Str → Option Value} {base : Heap}
variable {cE cB cN : Addr}
theorem ok_write_ratio (T : Tp P K mg cE cB cN)
    {f : Addr} {fd : FuncData} {dvs : List V} (F : FunD K "write_ratio" "write_ratio" (defArgs s_write_ratio) (defBody s_write_ratio) (defScope s_write_ratio) dvs [] f fd) : FnG P w K mg base 1 f fd P_write_ratio (spTextOf K) := by
  refine fng F sc_write_ratio (by walk_at "ulen") (fun cdv A outer s H vs Q E hr0 hg0 h => ?_)
  have hr : Rm 0 (A.deeper (envOfC "write_ratio" (defScope s_write_ratio) s.heap.objs.size f cdv)) := ⟨hr0, hg0⟩
  have nd : N_write_ratio.Nodup := sc_write_ratio.nd
  obtain ⟨v, n, d, rfl, ⟨p, rfl, hp⟩, L, k⟩ := h
  refine ⟨_, (pss_cons (ps_if (pt_cmpR (op_uEq hr.r.units) (pe_ix ix_seq (pv 0) pe_int (fun _ _ => rfl)) pe_int (nomark _)) (pss_one (ps_ret (pe_callTy call_uStr (by rfl) T.str b_str (pa_cons (pe_ix ix_seq (pv 0) pe_int (fun _ _ => rfl)) pa_nil)))) pss_nil)
    (pss_one (ps_ret (pe_jd (PJ.cons (pe_fmt (pe_ix ix_seq (pv 0) pe_int (fun _ _ => rfl))) (PJ.cons pe_str (PJ.cons (pe_fmt (pe_ix ix_seq (pv 0) pe_int (fun _ _ => rfl))) PJ.nil))))))), ?_⟩
  walk_at "uk"
  walk_at "us"
  have l1 := big_len L.bn
  have l2 := big_len L.bd
  have sl : (("/" : Str)).length = 1 := rfl
  unfold textOf at k
  refine s_ite (fun e => ?_) (fun e => ?_)
  · walk_at "us"
    rw [if_pos e] at k
    refine s_strI (log_big L.bn) ?_
    exact k (by omega)
  · walk_at "us"
    rw [if_neg e] at k
    trace_state
    refine .inr ⟨n, rfl, log_big L.bn, _, rfl, ?_, ?_⟩
    · rw [emp_app]
      show _ ≤ 16777216; omega
    rw [emp_app]
    walk_at "us"
    refine ⟨_, rfl, by rw [app_len]; show _ ≤ 16777216; omega, ?_⟩
    walk_at "us"
    refine .inr ⟨d, rfl, log_big L.bd, _, rfl, ?_, ?_⟩
    · rw [app_len, app_len]
      show _ ≤ 16777216; omega
    walk_at "us"
    exact k (by rw [app_len, app_len]; omega)
end
end Lw

set_option Elab.async false
set_option linter.all false
set_option maxRecDepth 100000
set_option maxHeartbeats 4000000
namespace Lw
open PySem PySem.Spec L2 Uv
open PyProof.Rows hiding St
local macro_rules | `(tactic| walk_at "umul") => `(tactic| fail)
local macro_rules | `(tactic| walk_at "us1") => `(tactic| first
  | (with_reducible refine s_seq ?_) | (with_reducible refine s_asg ?_) | (with_reducible refine s_gn ?_) | (with_reducible refine s_ret ?_) | (with_reducible refine s_drop ?_) | (with_reducible refine s_if ?_) | (with_reducible refine s_next ?_)
  | (with_reducible refine s_brk ?_) | (with_reducible refine s_cont ?_)
  | ((with_reducible refine' s_var ?hv ?_); (case hv => exact rfl)) | (with_reducible refine s_c ?_) | (with_reducible refine s_op ?_) | (with_reducible refine s_un ?_) | (with_reducible refine s_cb ?_) | (with_reducible refine s_call ?_)
  | (with_reducible refine s_cons ?_) | (with_reducible refine s_nil ?_) | (with_reducible refine s_test ?_) | (with_reducible refine s_tB ?_) | (with_reducible refine s_not ?_) | (with_reducible refine s_and ?_) | (with_reducible refine s_or ?_)
  | (with_reducible refine s_andV ?_) | (with_reducible refine s_orV ?_) | (with_reducible refine s_notV ?_) | (with_reducible refine s_ifE ?_) | (with_reducible refine s_bl ?_) | (with_reducible refine s_iT ?_) | (with_reducible refine s_iF ?_)
  | (with_reducible refine s_I0 ?_) | (with_reducible refine s_U ?_) | (with_reducible refine s_addI ?_) | (with_reducible refine s_eqI ?_) | (with_reducible refine s_eqS ?_) | (with_reducible refine s_eqB ?_) | (with_reducible refine s_neI ?_) | (with_reducible refine s_neS ?_) | (with_reducible refine s_neB ?_)
  | (with_reducible refine s_tupE ?_) | (with_reducible refine s_lstE ?_))
local macro_rules | `(tactic| walk_at "us") => `(tactic| repeat walk_at "us1")
local macro_rules | `(tactic| walk_at "ulen") => `(tactic| (intro vs H Q E h; repeat' (first | (obtain ⟨e, _⟩ := h; subst e; rfl) | (subst h; rfl) | (refine Or.elim h (fun h => ?_) (fun h => ?_)) | (obtain ⟨_, h⟩ := h))))
local macro_rules | `(tactic| walk_at "uk") => `(tactic| (try dsimp only [cxOf, Cx.suite, Cx.tr]))
local macro_rules | `(tactic| walk_at "us2") => `(tactic| first
  | walk_at "us1" | (with_reducible refine s_dput ?_) | ((with_reducible refine' s_mod ?hc ?_); (case hc => first | decide | assumption | omega))
  | (with_reducible refine s_for ?_) | (with_reducible refine s_lc ?_) | (with_reducible refine s_itl ?_) | (with_reducible refine s_itt ?_) | (with_reducible refine s_its ?_) | (with_reducible refine s_itr ?_) | (with_reducible refine s_itr2 ?_) | (with_reducible refine s_disp ?_) | (with_reducible refine s_prn ?_) | (with_reducible refine s_prc ?_) | (with_reducible refine s_m1 ?_) | (with_reducible refine s_isS ?_) | (with_reducible refine s_um1 ?_) | (with_reducible refine s_isB ?_) | (with_reducible refine s_isn ?_) | (with_reducible refine s_notn ?_) | (with_reducible refine s_jd ?_) | (with_reducible refine s_jn ?_) | (with_reducible refine s_jc ?_) | (with_reducible refine s_fmt ?_) | (with_reducible refine s_gc ?_) | (with_reducible refine s_gnil ?_) | (with_reducible refine s_yes ?_) | (with_reducible refine s_raise ?_)
  | ((with_reducible refine' s_pow ?hc ?_); (case hc => exact ⟨by decide, by decide, by decide⟩)) | (with_reducible refine s_int ?_) | (with_reducible refine s_intB ?_) | (with_reducible refine s_strS ?_) | (with_reducible refine s_abs ?_) | (with_reducible refine s_max ?_) | (with_reducible refine s_min ?_) | (with_reducible refine s_gcd ?_)
  | (with_reducible refine s_chain ?_) | (with_reducible refine s_sl ?_) | (with_reducible refine s_noP ?_) | (with_reducible refine s_part ?_) | (with_reducible refine s_exI ?_) 
  | ((with_reducible refine' s_mulI ?hc ?_); (case hc => first | exact Or.inl (Or.inr ⟨by decide, by decide⟩) | exact Or.inl (Or.inl ⟨by decide, by decide⟩) | exact Or.inl (Or.inl ⟨by omega, by omega⟩) | exact Or.inl (Or.inr ⟨by omega, by omega⟩) | walk_at "umul"))
  | ((with_reducible refine' s_ixT ?hc ?hd ?_); (case hc => assumption); (case hd => rfl))
  | ((with_reducible refine' s_lenL ?hc ?_); (case hc => first | assumption | exact SqL.of (by assumption))) | ((with_reducible refine' s_lenT ?hc ?_); (case hc => first | assumption | exact SqT.of (by assumption)))
  | ((with_reducible refine' s_divP ?hc ?hd ?_); (case hc => first | decide | assumption | omega); (case hd => first | decide +kernel | assumption)))
local macro_rules | `(tactic| walk_at "us") => `(tactic| repeat walk_at "us2")
local macro_rules | `(tactic| walk_at "uj") => `(tactic| ((walk_at "us"); with_reducible refine s_J ?_))
local macro_rules | `(tactic| walk_at "ua") => `(tactic| ((walk_at "us"); repeat ((first | (refine s_iF ?_) | (refine s_iT ?_)); (walk_at "us"))))
local macro_rules | `(tactic| walk_at "ub") => `(tactic| walk_at "ua")
local macro_rules | `(tactic| walk_at "umul") => `(tactic| exact Or.inr (mulB (by assumption) (by assumption)))
section
variable {P : Program} {w : World} {K : PySem.W.Frag} {mg : Str → Option Value} {base : Heap}
variable {cE cB cN : Addr}
theorem ok_is_number_text (T : Tp P K mg cE cB cN)
    {f : Addr} {fd : FuncData} {dvs : List V} (F : FunD K "is_number_text" "is_number_text" (defArgs s_is_number_text) (defBody s_is_number_text) (defScope s_is_number_text) dvs [] f fd) : FnG P w K mg base 1 f fd P_is_number_text (spFig) := by
  refine fng F sc_is_number_text (by walk_at "ulen") (fun cdv A outer s H vs Q E hr0 hg0 h => ?_)
  have hr : Rm 0 (A.deeper (envOfC "is_number_text" (defScope s_is_number_text) s.heap.objs.size f cdv)) := ⟨hr0, hg0⟩
  have nd : N_is_number_text.Nodup := sc_is_number_text.nd
  have po : PassesOwn (model P w) (cxOf (L2.CX P w) P w K mg base N_is_number_text "is_number_text" (defScope s_is_number_text) f cdv A outer s H E).A (cxOf (L2.CX P w) P w K mg base N_is_number_text "is_number_text" (defScope s_is_number_text) f cdv A outer s H E).env (cxOf (L2.CX P w) P w K mg base N_is_number_text "is_number_text" (defScope s_is_number_text) f cdv A outer s H E).xe := passes_of rfl
  obtain ⟨z, rfl, hz, k⟩ := h
  refine ⟨_, (pss_consJ (ps_if (pt_not (pt_chain op_le op_le pe_int (pe_callB call_uLen (by rfl) T.len b_len (pa_cons (pv 0) pa_nil)) (pe_gI T.g_MOST_FIGURES))) (pss_one (ps_ret pe_bl)) pss_nil)
    (pss_cons (ps_for po rfl (pi_str (pv 0)) (pg_name (i := 1) nd rfl (Or.inl rfl))
    (pss_one (ps_if (pt_cmpR op_uNotIn (pv 1) (pe_gS T.g_FIGURES) rfl) (pss_one (ps_ret pe_bl)) pss_nil)))
    (pss_one (ps_ret (pe_or (pe_cmpR (op_uEq hr.r.units) (pv 0) pe_str (nomark _)) (pe_one (pe_cmpR (op_uNe hr.r.units) (pe_ix ix_seq (pv 0) pe_int (fun _ _ => rfl)) pe_str (nomark _)))))))), ?_⟩
  walk_at "uk"
  have zl : z.length ≤ sizeLine := by show _ ≤ 16777216; omega
  walk_at "uj"
  refine s_seqJ (fun σ' H' => H = H' ∧ 1 ≤ z.length ∧ z.length ≤ 400 ∧ σ' = L2.start N_is_number_text [V.str z]) ?_ (fun R hR => ?_)
  · rintro σ' _ ⟨rfl, h1, h2, rfl⟩
    walk_at "us"
    refine loopS (fun i σ' H' => H = H' ∧ (∀ j c, j < i → z.cps[j]? = some c → c ∈ ("0123456789" : Str).cps.toList) ∧ ∃ oc, σ' = (L2.start N_is_number_text [.str z]).set 1 oc) ⟨rfl, fun j c h => by omega, none, rfl⟩ ?_ ?_
    · rintro σ' _ ⟨rfl, hall, oc, rfl⟩
      have fy := fig_yes h1 h2 hall
      walk_at "us"
      refine s_itB (fun z1 => ?_) (fun z1 => ?_)
      · walk_at "us"
        rw [fy, z1, Bool.true_or] at k
        exact k
      · walk_at "us"
        obtain ⟨c, hc, ha⟩ := first_sign h1
        refine s_ixS zl ha ?_
        walk_at "us"
        rw [fy, z1, Bool.false_or, hc, show decide (some c = some 48) = decide (c = 48) from decide_eq_decide.mpr (by simp)] at k
        rw [sign_eq]
        exact k
    · rintro i c σ' _ hc ⟨rfl, hall, oc, rfl⟩
      walk_at "us"
      refine s_inS ?_
      walk_at "us"
      by_cases hm : c ∈ ("0123456789" : Str).cps.toList
      · rw [decide_eq_true hm]
        walk_at "ua"
        refine ⟨rfl, fun j c' hj hc' => ?_, _, rfl⟩
        by_cases e : j = i
        · subst e
          rw [hc] at hc'; cases hc'
          exact hm
        · exact hall j c' (by omega) hc'
      · rw [decide_eq_false hm]
        walk_at "ua"
        rw [fig_no hc hm] at k
        exact k
  walk_at "us"
  refine s_lenS zl ?_
  walk_at "us"
  refine s_itB (fun z1 => ?_) (fun z1 => ?_)
  · walk_at "us"
    refine s_itB (fun z2 => ?_) (fun z2 => ?_)
    · walk_at "us"
      rw [fig_len (by simp at z1 z2; omega)] at k
      exact k
    · walk_at "us"
      exact hR _ _ ⟨rfl, by simp at z1; omega, by simp at z2; omega, rfl⟩
  · walk_at "ua"
    rw [fig_len (by simp at z1; omega)] at k
    exact k
end
end Lw

set_option Elab.async false
set_option linter.all false
set_option maxRecDepth 100000
set_option maxHeartbeats 4000000
namespace Lw
open PySem PySem.Spec L2 Uv
open PyProof.Rows hiding St
local macro_rules | `(tactic| walk_at "umul") => `(tactic| fail)
local macro_rules | `(tactic| walk_at "us1") => `(tactic| first
  | (with_reducible refine s_seq ?_) | (with_reducible refine s_asg ?_) | (with_reducible refine s_gn ?_) | (with_reducible refine s_ret ?_) | (with_reducible refine s_drop ?_) | (with_reducible refine s_if ?_) | (with_reducible refine s_next ?_)
  | (with_reducible refine s_brk ?_) | (with_reducible refine s_cont ?_)
  | ((with_reducible refine' s_var ?hv ?_); (case hv => exact rfl)) | (with_reducible refine s_c ?_) | (with_reducible refine s_op ?_) | (with_reducible refine s_un ?_) | (with_reducible refine s_cb ?_) | (with_reducible refine s_call ?_)
  | (with_reducible refine s_cons ?_) | (with_reducible refine s_nil ?_) | (with_reducible refine s_test ?_) | (with_reducible refine s_tB ?_) | (with_reducible refine s_not ?_) | (with_reducible refine s_and ?_) | (with_reducible refine s_or ?_)
  | (with_reducible refine s_andV ?_) | (with_reducible refine s_orV ?_) | (with_reducible refine s_notV ?_) | (with_reducible refine s_ifE ?_) | (with_reducible refine s_bl ?_) | (with_reducible refine s_iT ?_) | (with_reducible refine s_iF ?_)
  | (with_reducible refine s_I0 ?_) | (with_reducible refine s_U ?_) | (with_reducible refine s_addI ?_) | (with_reducible refine s_eqI ?_) | (with_reducible refine s_eqS ?_) | (with_reducible refine s_eqB ?_) | (with_reducible refine s_neI ?_) | (with_reducible refine s_neS ?_) | (with_reducible refine s_neB ?_)
  | (with_reducible refine s_tupE ?_) | (with_reducible refine s_lstE ?_))
local macro_rules | `(tactic| walk_at "us") => `(tactic| repeat walk_at "us1")
local macro_rules | `(tactic| walk_at "ulen") => `(tactic| (intro vs H Q E h; repeat' (first | (obtain ⟨e, _⟩ := h; subst e; rfl) | (subst h; rfl) | (refine Or.elim h (fun h => ?_) (fun h => ?_)) | (obtain ⟨_, h⟩ := h))))
local macro_rules | `(tactic| walk_at "uk") => `(tactic| (try dsimp only [cxOf, Cx.suite, Cx.tr]))
local macro_rules | `(tactic| walk_at "us2") => `(tactic| first
  | walk_at "us1" | (with_reducible refine s_dput ?_) | ((with_reducible refine' s_mod ?hc ?_); (case hc => first | decide | assumption | omega))
  | (with_reducible refine s_for ?_) | (with_reducible refine s_lc ?_) | (with_reducible refine s_itl ?_) | (with_reducible refine s_itt ?_) | (with_reducible refine s_its ?_) | (with_reducible refine s_itr ?_) | (with_reducible refine s_itr2 ?_) | (with_reducible refine s_disp ?_) | (with_reducible refine s_prn ?_) | (with_reducible refine s_prc ?_) | (with_reducible refine s_m1 ?_) | (with_reducible refine s_isS ?_) | (with_reducible refine s_um1 ?_) | (with_reducible refine s_isB ?_) | (with_reducible refine s_isn ?_) | (with_reducible refine s_notn ?_) | (with_reducible refine s_jd ?_) | (with_reducible refine s_jn ?_) | (with_reducible refine s_jc ?_) | (with_reducible refine s_fmt ?_) | (with_reducible refine s_gc ?_) | (with_reducible refine s_gnil ?_) | (with_reducible refine s_yes ?_) | (with_reducible refine s_raise ?_)
  | ((with_reducible refine' s_pow ?hc ?_); (case hc => exact ⟨by decide, by decide, by decide⟩)) | (with_reducible refine s_int ?_) | (with_reducible refine s_intB ?_) | (with_reducible refine s_strS ?_) | (with_reducible refine s_abs ?_) | (with_reducible refine s_max ?_) | (with_reducible refine s_min ?_) | (with_reducible refine s_gcd ?_)
  | (with_reducible refine s_chain ?_) | (with_reducible refine s_sl ?_) | (with_reducible refine s_noP ?_) | (with_reducible refine s_part ?_) | (with_reducible refine s_exI ?_) 
  | ((with_reducible refine' s_mulI ?hc ?_); (case hc => first | exact Or.inl (Or.inr ⟨by decide, by decide⟩) | exact Or.inl (Or.inl ⟨by decide, by decide⟩) | exact Or.inl (Or.inl ⟨by omega, by omega⟩) | exact Or.inl (Or.inr ⟨by omega, by omega⟩) | walk_at "umul"))
  | ((with_reducible refine' s_ixT ?hc ?hd ?_); (case hc => assumption); (case hd => rfl))
  | ((with_reducible refine' s_lenL ?hc ?_); (case hc => first | assumption | exact SqL.of (by assumption))) | ((with_reducible refine' s_lenT ?hc ?_); (case hc => first | assumption | exact SqT.of (by assumption)))
  | ((with_reducible refine' s_divP ?hc ?hd ?_); (case hc => first | decide | assumption | omega); (case hd => first | decide +kernel | assumption)))
local macro_rules | `(tactic| walk_at "us") => `(tactic| repeat walk_at "us2")
local macro_rules | `(tactic| walk_at "uj") => `(tactic| ((walk_at "us"); with_reducible refine s_J ?_))
local macro_rules | `(tactic| walk_at "ua") => `(tactic| ((walk_at "us"); repeat ((first | (refine s_iF ?_) | (refine s_iT ?_)); (walk_at "us"))))
local macro_rules | `(tactic| walk_at "ub") => `(tactic| walk_at "ua")
local macro_rules | `(tactic| walk_at "umul") => `(tactic| exact Or.inr (mulB (by assumption) (by assumption)))
theorem in_two (c : Str) : inV (.str c) [.str "0", .str "1"] = (decide (c = "0") || decide (c = "1")) := by
  have e : ∀ a b : Str, eqV (.str a) (.str b) = decide (b = a) := fun a b => by
    show (a == b) = _
    rw [Bool.eq_iff_iff]
    simp only [beq_iff_eq, decide_eq_true_eq]
    exact eq_comm
  show (eqV (.str "0") (.str c) || (eqV (.str "1") (.str c) || false)) = _
  rw [e, e, Bool.or_false]
theorem s_isStrT {K : PySem.W.Frag} {H : Hp} {v : V} {Q : VK} (h : Thing K H v) (q : Q (.bl false) H) : rIsi K [v, .ty "str"] H Q := by
  rcases h with ⟨d, hd, e⟩ | ⟨a, rfl, ha⟩
  · exact s_isStr hd (by rw [e]; exact q)
  · exact ⟨.ref a, .ty "str", _, _, false, rfl, .ty _, .base (.dK ha), kit_ty (show kitB "dict" "str" = some false from by decide +kernel), q⟩
section
variable {P : Program} {w : World} {K : PySem.W.Frag} {mg : Str → Option Value} {base : Heap}
variable {cE cB cN : Addr}
theorem ok_read_ratio (T : Tp P K mg cE cB cN)
    (c_is_number_text : Cal P w K mg base 1 "is_number_text" P_is_number_text [] (spFig))
    {f : Addr} {fd : FuncData} {dvs : List V} (F : FunD K "read_ratio" "read_ratio" (defArgs s_read_ratio) (defBody s_read_ratio) (defScope s_read_ratio) dvs [] f fd) : FnG P w K mg base 2 f fd P_read_ratio (spRead K cB) := by
  refine fng F sc_read_ratio (by walk_at "ulen") (fun cdv A outer s H vs Q E hr0 hg0 h => ?_)
  have hr : Rm 1 (A.deeper (envOfC "read_ratio" (defScope s_read_ratio) s.heap.objs.size f cdv)) := ⟨hr0, hg0⟩
  have nd : N_read_ratio.Nodup := sc_read_ratio.nd
  have tk : Takes (cxOf (L2.CX P w) P w K mg base N_read_ratio "read_ratio" (defScope s_read_ratio) f cdv A outer s H E) (fun cls d _ H => E cls d H) := takes_of rfl rfl rfl rfl
  obtain ⟨v, rfl, h⟩ := h
  refine ⟨_, (pss_cons (ps_if (pt_not (pt_val (pe_callB call_isi (by rfl) T.isinstance b_isinstance (pa_cons (pv 0) (pa_cons (pe_bltn (v := .ty "str") (by rfl) T.str b_str rfl) pa_nil))))) (pss_one (ps_raiseX rfl T.x_BadRatio hr.r tk (by decide) (by decide) (pa_cons (pv 0) pa_nil))) pss_nil)
    (pss_cons (ps_set (i := 1) nd rfl (Or.inl rfl) pe_int)
    (pss_cons (ps_set (i := 2) nd rfl (Or.inl rfl) (pv 0))
    (pss_consJ (ps_if (pt_val (pe_m1 PySem.F.slot_str_startswith PySem.F.type_str_startswith mt_uSw (pv 0) pe_str)) (pss_cons (ps_set (i := 1) nd rfl (Or.inl rfl) (pe_un un_neg pe_int))
    (pss_one (ps_set (i := 2) nd rfl (Or.inl rfl) (pe_slice sl_u (pv 0) (po_some pe_int) po_none)))) pss_nil)
    (pss_cons (ps_asg (pe_m1 PySem.F.slot_str_partition PySem.F.type_str_partition mt_uPart (pv 2) pe_str) (pg_tup rfl (pgs_cons (pg_name (i := 3) nd rfl (Or.inl rfl)) (pgs_cons (pg_name (i := 4) nd rfl (Or.inl rfl)) (pgs_cons (pg_name (i := 5) nd rfl (Or.inl rfl)) pgs_nil)))))
    (pss_consJ (ps_if (PW.pt (pw_or (pt_not (pt_val (pe_c (E := En) c_is_number_text (hr.mono (by decide)) paN (pa_cons (pv 3) pa_nil)))) (pw_or1 (PW.pt (pw_and (pt_cmpR op_lt (pv 1) pe_int (nomark _)) (pw_and1 (pt_cmpR (op_uEq hr.r.units) (pv 3) pe_str (nomark _)))))))) (pss_one (ps_raiseX rfl T.x_BadRatio hr.r tk (by decide) (by decide) (pa_cons (pv 0) pa_nil))) pss_nil)
    (pss_cons (ps_if (pt_cmpR (op_uEq hr.r.units) (pv 4) pe_str (nomark _)) (pss_one (ps_ret (pe_tup (pa_cons (pe_op op_uMul (pv 1) (pe_callTy call_uInt (by rfl) T.int b_int (pa_cons (pv 3) pa_nil))) (pa_cons pe_int pa_nil))))) pss_nil)
    (pss_cons (ps_if (PW.pt (pw_or (pt_not (pt_val (pe_c (E := En) c_is_number_text (hr.mono (by decide)) paN (pa_cons (pv 5) pa_nil)))) (pw_or1 (pt_cmpR op_in_seq (pv 5) (pe_tup (pa_cons pe_str (pa_cons pe_str pa_nil))) rfl)))) (pss_one (ps_raiseX rfl T.x_BadRatio hr.r tk (by decide) (by decide) (pa_cons (pv 0) pa_nil))) pss_nil)
    (pss_cons (ps_set (i := 6) nd rfl (Or.inl rfl) (pe_tup (pa_cons (pe_op op_uMul (pv 1) (pe_callTy call_uInt (by rfl) T.int b_int (pa_cons (pv 3) pa_nil))) (pa_cons (pe_callTy call_uInt (by rfl) T.int b_int (pa_cons (pv 5) pa_nil)) pa_nil))))
    (pss_cons (ps_if (pt_cmpR (op_uNe hr.r.units) (pe_callBfun call_uGcd (by rfl) T.g_gcd (pa_cons (pe_ix ix_seq (pv 6) pe_int (fun _ _ => rfl)) (pa_cons (pe_ix ix_seq (pv 6) pe_int (fun _ _ => rfl)) pa_nil))) pe_int (nomark _)) (pss_one (ps_raiseX rfl T.x_BadRatio hr.r tk (by decide) (by decide) (pa_cons (pv 0) pa_nil))) pss_nil)
    (pss_one (ps_ret (pv 6))))))))))))), ?_⟩
  walk_at "uk"
  walk_at "us"
  rcases h with ⟨z, rfl, hz, k, kx⟩ | ⟨ht, kx⟩
  · have zl : z.length ≤ sizeLine := by show _ ≤ 16777216; omega
    refine s_isStr (.str z) ?_
    walk_at "ua"
    walk_at "uj"
    refine s_seqJ (fun σ' H' => H = H' ∧ ∃ s r, (s = 1 ∨ s = -1) ∧ r.length ≤ 10000 ∧ readV z = readG s r ∧ σ' = ((L2.start N_read_ratio [V.str z]).set 1 (some (.int s))).set 2 (some (.str r))) ?_ (fun R hR => ?_)
    · rintro σ' _ ⟨rfl, s, r, hs, hl, hv, rfl⟩
      have s1 : -(2 ^ 64) < s := by omega
      have s2 : s < 2 ^ 64 := by omega
      have rl : r.length ≤ sizeLine := by show _ ≤ 16777216; omega
      walk_at "us"
      refine s_upart (b := "/") (by decide +kernel) rl fun p hp => ?_
      walk_at "us"
      refine s_gt (.of upd_same) rfl ?_
      walk_at "us"
      have pl := fact_partition r "/"
      generalize hP : Txt.partition r "/" = pp at pl
      obtain ⟨a, st, c⟩ := pp
      obtain ⟨l1, l2, l3⟩ : a.length ≤ r.length ∧ st.length ≤ r.length ∧ c.length ≤ r.length := pl
      have hv2 : readV z = if (!fig a || (decide (s < 0) && decide (a = "0"))) = true then none else if st = "" then some (s * ival a, 1) else if (!fig c || (decide (c = "0") || decide (c = "1"))) = true then none else if Int.gcd (s * ival a) (ival c) = 1 then some (s * ival a, ival c) else none := by
        rw [hv]; unfold readG; rw [hP]
      clear hv
      have e1 : Ex H (upd H p (.tup [.str a, .str st, .str c])) := exN hp
      generalize upd H p (.tup [.str a, .str st, .str c]) = H1 at e1
      dsimp only
      walk_at "uj"
      refine s_seqJ (fun σ' H' => H1 = H' ∧ fig a = true ∧ (decide (s < 0) && decide (a = "0")) = false ∧ σ' = (((((L2.start N_read_ratio [V.str z]).set 1 (some (.int s))).set 2 (some (.str r))).set 3 (some (.str a))).set 4 (some (.str st))).set 5 (some (.str c))) ?_ (fun R hR => ?_)
      · rintro σ' _ ⟨rfl, ha, hn, rfl⟩
        obtain ⟨ia, ia0⟩ := fig_int ha
        rw [ha, hn, Bool.not_true, Bool.false_or, if_neg (by simp)] at hv2
        walk_at "us"
        refine s_ite (fun hst => ?_) (fun hst => ?_)
        · rw [if_pos hst] at hv2
          walk_at "us"
          refine s_intS ia (fig_l ha) ?_
          walk_at "us"
          refine s_szN (Nat.le_of_ble_eq_true rfl) fun q hq => ?_
          exact k _ _ hv2 q _ (e1.tr (exN hq)) upd_same
        rw [if_neg hst] at hv2
        walk_at "us"
        refine ⟨c, rfl, by omega, ?_⟩
        walk_at "us"
        cases hc : fig c with
        | false =>
          rw [hc, Bool.not_false, Bool.true_or, if_pos rfl] at hv2
          walk_at "ua"
          refine ⟨rfl, fun e he => ?_⟩
          exact kx hv2 e _ (e1.tr (exN he)) upd_same
        | true =>
          rw [hc, Bool.not_true, Bool.false_or] at hv2
          obtain ⟨ic, ic0⟩ := fig_int hc
          walk_at "ua"
          refine s_szN (Nat.le_of_ble_eq_true rfl) fun q hq => ?_
          refine s_inT (.of upd_same) rfl rfl ?_
          walk_at "us"
          have e2 := e1.tr (exN (o := .tup [.str "0", .str "1"]) hq)
          generalize upd H1 q (.tup [.str "0", .str "1"]) = H2 at e2
          refine s_itB (fun hin => ?_) (fun hin => ?_)
          · have hq2 : (decide (c = "0") || decide (c = "1")) = true := by rw [← in_two]; exact hin
            rw [hq2, if_pos rfl] at hv2
            walk_at "us"
            refine ⟨rfl, fun e he => ?_⟩
            exact kx hv2 e _ (e2.tr (exN he)) upd_same
          · have hq2 : (decide (c = "0") || decide (c = "1")) = false := by rw [← in_two]; exact hin
            rw [hq2, if_neg (by simp)] at hv2
            walk_at "us"
            refine s_intS ia (fig_l ha) ?_
            walk_at "us"
            refine s_intS ic (fig_l hc) ?_
            walk_at "us"
            refine s_szN (Nat.le_of_ble_eq_true rfl) fun q2 hq2' => ?_
            walk_at "us"
            refine s_ixT (.of upd_same) rfl ?_
            walk_at "us"
            refine s_ixT (.of upd_same) rfl ?_
            walk_at "us"
            refine s_iteN (fun hg => ?_) (fun hg => ?_)
            · rw [if_neg (fun z => hg (by omega))] at hv2
              walk_at "us"
              refine ⟨rfl, fun e he => ?_⟩
              exact kx hv2 e _ ((e2.tr (exN hq2')).tr (exN he)) upd_same
            · rw [if_pos (by omega)] at hv2
              walk_at "us"
              exact k _ _ hv2 q2 _ (e2.tr (exN hq2')) upd_same
      · walk_at "us"
        refine ⟨a, rfl, by omega, ?_⟩
        walk_at "us"
        cases ha : fig a with
        | false =>
          rw [ha, Bool.not_false, Bool.true_or, if_pos rfl] at hv2
          walk_at "ua"
          refine ⟨rfl, fun e he => ?_⟩
          exact kx hv2 e _ (e1.tr (exN he)) upd_same
        | true =>
          rw [ha, Bool.not_true, Bool.false_or] at hv2
          walk_at "ua"
          refine s_itB (fun q1 => ?_) (fun q1 => ?_)
          · walk_at "us"
            refine s_itB (fun q2 => ?_) (fun q2 => ?_)
            · rw [q1, q2, Bool.and_self, if_pos rfl] at hv2
              walk_at "us"
              refine ⟨rfl, fun e he => ?_⟩
              exact kx hv2 e _ (e1.tr (exN he)) upd_same
            · walk_at "us"
              exact hR _ _ ⟨rfl, ha, by rw [q2, Bool.and_false], rfl⟩
          · walk_at "us"
            exact hR _ _ ⟨rfl, ha, by rw [q1, Bool.false_and], rfl⟩
    · walk_at "us"
      refine s_itB (fun hs => ?_) (fun hs => ?_)
      · walk_at "us"
        refine s_slS zl ?_
        walk_at "us"
        exact hR _ _ ⟨rfl, -1, cutS z (some 1) none, .inr rfl, Nat.le_trans (cutS_length _ _ _) hz, by unfold readV; rw [if_pos hs], rfl⟩
      · walk_at "us"
        exact hR _ _ ⟨rfl, 1, z, .inl rfl, hz, by unfold readV; rw [if_neg (by rw [hs]; simp)], rfl⟩
  · refine s_isStrT ht ?_
    walk_at "ua"
    refine ⟨rfl, fun e he => ?_⟩
    exact kx e _ (exN he) upd_same
end
end Lw

set_option Elab.async false
set_option linter.all false
set_option maxRecDepth 100000
set_option maxHeartbeats 4000000
namespace Lw
open PySem PySem.Spec L2 Uv
open PyProof.Rows hiding St
local macro_rules | `(tactic| walk_at "umul") => `(tactic| fail)
local macro_rules | `(tactic| walk_at "us1") => `(tactic| first
  | (with_reducible refine s_seq ?_) | (with_reducible refine s_asg ?_) | (with_reducible refine s_gn ?_) | (with_reducible refine s_ret ?_) | (with_reducible refine s_drop ?_) | (with_reducible refine s_if ?_) | (with_reducible refine s_next ?_)
  | (with_reducible refine s_brk ?_) | (with_reducible refine s_cont ?_)
  | ((with_reducible refine' s_var ?hv ?_); (case hv => exact rfl)) | (with_reducible refine s_c ?_) | (with_reducible refine s_op ?_) | (with_reducible refine s_un ?_) | (with_reducible refine s_cb ?_) | (with_reducible refine s_call ?_)
  | (with_reducible refine s_cons ?_) | (with_reducible refine s_nil ?_) | (with_reducible refine s_test ?_) | (with_reducible refine s_tB ?_) | (with_reducible refine s_not ?_) | (with_reducible refine s_and ?_) | (with_reducible refine s_or ?_)
  | (with_reducible refine s_andV ?_) | (with_reducible refine s_orV ?_) | (with_reducible refine s_notV ?_) | (with_reducible refine s_ifE ?_) | (with_reducible refine s_bl ?_) | (with_reducible refine s_iT ?_) | (with_reducible refine s_iF ?_)
  | (with_reducible refine s_I0 ?_) | (with_reducible refine s_U ?_) | (with_reducible refine s_addI ?_) | (with_reducible refine s_eqI ?_) | (with_reducible refine s_eqS ?_) | (with_reducible refine s_eqB ?_) | (with_reducible refine s_neI ?_) | (with_reducible refine s_neS ?_) | (with_reducible refine s_neB ?_)
  | (with_reducible refine s_tupE ?_) | (with_reducible refine s_lstE ?_))
local macro_rules | `(tactic| walk_at "us") => `(tactic| repeat walk_at "us1")
local macro_rules | `(tactic| walk_at "ulen") => `(tactic| (intro vs H Q E h; repeat' (first | (obtain ⟨e, _⟩ := h; subst e; rfl) | (subst h; rfl) | (refine Or.elim h (fun h => ?_) (fun h => ?_)) | (obtain ⟨_, h⟩ := h))))
local macro_rules | `(tactic| walk_at "uk") => `(tactic| (try dsimp only [cxOf, Cx.suite, Cx.tr]))
local macro_rules | `(tactic| walk_at "us2") => `(tactic| first
  | walk_at "us1" | (with_reducible refine s_dput ?_) | ((with_reducible refine' s_mod ?hc ?_); (case hc => first | decide | assumption | omega))
  | (with_reducible refine s_for ?_) | (with_reducible refine s_lc ?_) | (with_reducible refine s_itl ?_) | (with_reducible refine s_itt ?_) | (with_reducible refine s_its ?_) | (with_reducible refine s_itr ?_) | (with_reducible refine s_itr2 ?_) | (with_reducible refine s_disp ?_) | (with_reducible refine s_prn ?_) | (with_reducible refine s_prc ?_) | (with_reducible refine s_m1 ?_) | (with_reducible refine s_isS ?_) | (with_reducible refine s_um1 ?_) | (with_reducible refine s_isB ?_) | (with_reducible refine s_isn ?_) | (with_reducible refine s_notn ?_) | (with_reducible refine s_jd ?_) | (with_reducible refine s_jn ?_) | (with_reducible refine s_jc ?_) | (with_reducible refine s_fmt ?_) | (with_reducible refine s_gc ?_) | (with_reducible refine s_gnil ?_) | (with_reducible refine s_yes ?_) | (with_reducible refine s_raise ?_)
  | ((with_reducible refine' s_pow ?hc ?_); (case hc => exact ⟨by decide, by decide, by decide⟩)) | (with_reducible refine s_int ?_) | (with_reducible refine s_intB ?_) | (with_reducible refine s_strS ?_) | (with_reducible refine s_abs ?_) | (with_reducible refine s_max ?_) | (with_reducible refine s_min ?_) | (with_reducible refine s_gcd ?_)
  | (with_reducible refine s_chain ?_) | (with_reducible refine s_sl ?_) | (with_reducible refine s_noP ?_) | (with_reducible refine s_part ?_) | (with_reducible refine s_exI ?_) 
  | ((with_reducible refine' s_mulI ?hc ?_); (case hc => first | exact Or.inl (Or.inr ⟨by decide, by decide⟩) | exact Or.inl (Or.inl ⟨by decide, by decide⟩) | exact Or.inl (Or.inl ⟨by omega, by omega⟩) | exact Or.inl (Or.inr ⟨by omega, by omega⟩) | walk_at "umul"))
  | ((with_reducible refine' s_ixT ?hc ?hd ?_); (case hc => assumption); (case hd => rfl))
  | ((with_reducible refine' s_lenL ?hc ?_); (case hc => first | assumption | exact SqL.of (by assumption))) | ((with_reducible refine' s_lenT ?hc ?_); (case hc => first | assumption | exact SqT.of (by assumption)))
  | ((with_reducible refine' s_divP ?hc ?hd ?_); (case hc => first | decide | assumption | omega); (case hd => first | decide +kernel | assumption)))
local macro_rules | `(tactic| walk_at "us") => `(tactic| repeat walk_at "us2")
local macro_rules | `(tactic| walk_at "uj") => `(tactic| ((walk_at "us"); with_reducible refine s_J ?_))
local macro_rules | `(tactic| walk_at "ua") => `(tactic| ((walk_at "us"); repeat ((first | (refine s_iF ?_) | (refine s_iT ?_)); (walk_at "us"))))
local macro_rules | `(tactic| walk_at "ub") => `(tactic| walk_at "ua")
local macro_rules | `(tactic| walk_at "umul") => `(tactic| exact Or.inr (mulB (by assumption) (by assumption)))
section
variable {P : Program} {w : World} {K : PySem.W.Frag} {mg : Str → Option Value} {base : Heap}
variable {cE cB cN : Addr}
theorem ok_l_ratio_told (T : Tp P K mg cE cB cN)
    (c_ratio_2 : Cal P w K mg base 1 "ratio" P_ratio [] (spRatio cN))
    {f : Addr} {fd : FuncData} {dvs : List V} (F : FunD K "_law_ratio_told" "_law_ratio_told" (defArgs s_l_ratio_told) (defBody s_l_ratio_told) (defScope s_l_ratio_told) dvs [] f fd) : FnG P w K mg base 2 f fd P_l_ratio_told (spRatioTold) := by
  refine fng F sc_l_ratio_told (by walk_at "ulen") (fun cdv A outer s H vs Q E hr0 hg0 h => ?_)
  have hr : Rm 1 (A.deeper (envOfC "_law_ratio_told" (defScope s_l_ratio_told) s.heap.objs.size f cdv)) := ⟨hr0, hg0⟩
  have nd : N_l_ratio_told.Nodup := sc_l_ratio_told.nd
  have tk : Takes (cxOf (L2.CX P w) P w K mg base N_l_ratio_told "_law_ratio_told" (defScope s_l_ratio_told) f cdv A outer s H E) (fun cls d _ H => E cls d H) := takes_of rfl rfl rfl rfl
  obtain ⟨n, d, rfl, bn, bd, k, kx⟩ := h
  refine ⟨_, (pss_one (ps_tryC tk (fun W_ pn_ xe_ tkb pob =>
      (pss_one (ps_ret (pe_tup (pa_cons pe_str (pa_cons (pe_c c_ratio_2 (hr.mono (by decide)) (fun σ => passAt tkb σ) (pa_cons (pv 0) (pa_cons (pv 1) pa_nil))) pa_nil))))))
      (ClOk.named (i := 2) ⟨by rfl, by decide, Or.inl T.g_Nought⟩ nd rfl rfl
      (fun a_ oe_ cls_ d_ pn_ hz hf => (pss_cons (ps_if (PW.pt (pw_and (pt_val (pe_callB (call_isX hz hf) (by rfl) T.isinstance b_isinstance (pa_cons (pv 2) (pa_cons (pe_bltn (v := .ty "ValueError") (by rfl) T.ValueError b_ValueError rfl) pa_nil)))) (pw_and (pt_val (pe_callB (call_isX hz hf) (by rfl) T.isinstance b_isinstance (pa_cons (pv 2) (pa_cons (pe_gR T.g_EllError) pa_nil)))) (pw_and1 (pt_not (pt_val (pe_callB (call_isX hz hf) (by rfl) T.isinstance b_isinstance (pa_cons (pv 2) (pa_cons (pe_gR T.g_BadRatio) pa_nil))))))))) (pss_one (ps_ret (pe_tup (pa_cons pe_str (pa_cons (pe_xf T.xf_Nought T.xn_Nought_number hz hf (pv 2)) pa_nil))))) pss_nil)
    (pss_one (ps_ret (pe_tup (pa_cons pe_str (pa_cons pe_non pa_nil)))))))
      (ClOk.bare ⟨by rfl, by decide, Or.inl T.g_EllError⟩
      (fun a_ oe_ cls_ d_ pn_ hz hf => (pss_one (ps_ret (pe_tup (pa_cons pe_str (pa_cons pe_non pa_nil))))))
      ClOk.nil)))), ?_⟩
  walk_at "uk"
  walk_at "us"
  refine ⟨n, d, rfl, bn, bd, fun hd p H1 e1 hp => ?_, fun hd e H1 e1 he => ?_⟩
  · refine s_szN (Nat.le_of_ble_eq_true rfl) fun q hq => ?_
    have nq : p ≠ q := fun z => by rw [z, hq] at hp; cases hp
    exact k hd q p _ (e1.tr (exN hq)) (by rw [upd_ne nq]; exact hp) upd_same
  · refine s_hit T.mNN fun a ha => ?_
    dsimp only [setO, endO]
    walk_at "us"
    refine s_isXt he T.eN T.oNV ?_
    walk_at "us"
    refine s_isXr he T.eN T.oNE ?_
    walk_at "us"
    refine s_isXr he T.eN T.oNB ?_
    walk_at "ua"
    refine s_xfV rfl he rfl ?_
    walk_at "us"
    refine s_szN (Nat.le_of_ble_eq_true rfl) fun q hq => ?_
    exact kx hd q _ (e1.tr (exN hq)) upd_same
end
end Lw

set_option Elab.async false
set_option linter.all false
set_option maxRecDepth 100000
set_option maxHeartbeats 4000000
namespace Lw
open PySem PySem.Spec L2 Uv
open PyProof.Rows hiding St
local macro_rules | `(tactic| walk_at "umul") => `(tactic| fail)
local macro_rules | `(tactic| walk_at "us1") => `(tactic| first
  | (with_reducible refine s_seq ?_) | (with_reducible refine s_asg ?_) | (with_reducible refine s_gn ?_) | (with_reducible refine s_ret ?_) | (with_reducible refine s_drop ?_) | (with_reducible refine s_if ?_) | (with_reducible refine s_next ?_)
  | (with_reducible refine s_brk ?_) | (with_reducible refine s_cont ?_)
  | ((with_reducible refine' s_var ?hv ?_); (case hv => exact rfl)) | (with_reducible refine s_c ?_) | (with_reducible refine s_op ?_) | (with_reducible refine s_un ?_) | (with_reducible refine s_cb ?_) | (with_reducible refine s_call ?_)
  | (with_reducible refine s_cons ?_) | (with_reducible refine s_nil ?_) | (with_reducible refine s_test ?_) | (with_reducible refine s_tB ?_) | (with_reducible refine s_not ?_) | (with_reducible refine s_and ?_) | (with_reducible refine s_or ?_)
  | (with_reducible refine s_andV ?_) | (with_reducible refine s_orV ?_) | (with_reducible refine s_notV ?_) | (with_reducible refine s_ifE ?_) | (with_reducible refine s_bl ?_) | (with_reducible refine s_iT ?_) | (with_reducible refine s_iF ?_)
  | (with_reducible refine s_I0 ?_) | (with_reducible refine s_U ?_) | (with_reducible refine s_addI ?_) | (with_reducible refine s_eqI ?_) | (with_reducible refine s_eqS ?_) | (with_reducible refine s_eqB ?_) | (with_reducible refine s_neI ?_) | (with_reducible refine s_neS ?_) | (with_reducible refine s_neB ?_)
  | (with_reducible refine s_tupE ?_) | (with_reducible refine s_lstE ?_))
local macro_rules | `(tactic| walk_at "us") => `(tactic| repeat walk_at "us1")
local macro_rules | `(tactic| walk_at "ulen") => `(tactic| (intro vs H Q E h; repeat' (first | (obtain ⟨e, _⟩ := h; subst e; rfl) | (subst h; rfl) | (refine Or.elim h (fun h => ?_) (fun h => ?_)) | (obtain ⟨_, h⟩ := h))))
local macro_rules | `(tactic| walk_at "uk") => `(tactic| (try dsimp only [cxOf, Cx.suite, Cx.tr]))
local macro_rules | `(tactic| walk_at "us2") => `(tactic| first
  | walk_at "us1" | (with_reducible refine s_dput ?_) | ((with_reducible refine' s_mod ?hc ?_); (case hc => first | decide | assumption | omega))
  | (with_reducible refine s_for ?_) | (with_reducible refine s_lc ?_) | (with_reducible refine s_itl ?_) | (with_reducible refine s_itt ?_) | (with_reducible refine s_its ?_) | (with_reducible refine s_itr ?_) | (with_reducible refine s_itr2 ?_) | (with_reducible refine s_disp ?_) | (with_reducible refine s_prn ?_) | (with_reducible refine s_prc ?_) | (with_reducible refine s_m1 ?_) | (with_reducible refine s_isS ?_) | (with_reducible refine s_um1 ?_) | (with_reducible refine s_isB ?_) | (with_reducible refine s_isn ?_) | (with_reducible refine s_notn ?_) | (with_reducible refine s_jd ?_) | (with_reducible refine s_jn ?_) | (with_reducible refine s_jc ?_) | (with_reducible refine s_fmt ?_) | (with_reducible refine s_gc ?_) | (with_reducible refine s_gnil ?_) | (with_reducible refine s_yes ?_) | (with_reducible refine s_raise ?_)
  | ((with_reducible refine' s_pow ?hc ?_); (case hc => exact ⟨by decide, by decide, by decide⟩)) | (with_reducible refine s_int ?_) | (with_reducible refine s_intB ?_) | (with_reducible refine s_strS ?_) | (with_reducible refine s_abs ?_) | (with_reducible refine s_max ?_) | (with_reducible refine s_min ?_) | (with_reducible refine s_gcd ?_)
  | (with_reducible refine s_chain ?_) | (with_reducible refine s_sl ?_) | (with_reducible refine s_noP ?_) | (with_reducible refine s_part ?_) | (with_reducible refine s_exI ?_) 
  | ((with_reducible refine' s_mulI ?hc ?_); (case hc => first | exact Or.inl (Or.inr ⟨by decide, by decide⟩) | exact Or.inl (Or.inl ⟨by decide, by decide⟩) | exact Or.inl (Or.inl ⟨by omega, by omega⟩) | exact Or.inl (Or.inr ⟨by omega, by omega⟩) | walk_at "umul"))
  | ((with_reducible refine' s_ixT ?hc ?hd ?_); (case hc => assumption); (case hd => rfl))
  | ((with_reducible refine' s_lenL ?hc ?_); (case hc => first | assumption | exact SqL.of (by assumption))) | ((with_reducible refine' s_lenT ?hc ?_); (case hc => first | assumption | exact SqT.of (by assumption)))
  | ((with_reducible refine' s_divP ?hc ?hd ?_); (case hc => first | decide | assumption | omega); (case hd => first | decide +kernel | assumption)))
local macro_rules | `(tactic| walk_at "us") => `(tactic| repeat walk_at "us2")
local macro_rules | `(tactic| walk_at "uj") => `(tactic| ((walk_at "us"); with_reducible refine s_J ?_))
local macro_rules | `(tactic| walk_at "ua") => `(tactic| ((walk_at "us"); repeat ((first | (refine s_iF ?_) | (refine s_iT ?_)); (walk_at "us"))))
local macro_rules | `(tactic| walk_at "ub") => `(tactic| walk_at "ua")
local macro_rules | `(tactic| walk_at "umul") => `(tactic| exact Or.inr (mulB (by assumption) (by assumption)))
section
variable {P : Program} {w : World} {K : PySem.W.Frag} {mg : Str → Option Value} {base : Heap}
variable {cE cB cN : Addr}
theorem ok_l_over_told (T : Tp P K mg cE cB cN)
    (c_over : Cal P w K mg base 2 "over" P_over [] (spOver K cN))
    {f : Addr} {fd : FuncData} {dvs : List V} (F : FunD K "_law_over_told" "_law_over_told" (defArgs s_l_over_told) (defBody s_l_over_told) (defScope s_l_over_told) dvs [] f fd) : FnG P w K mg base 3 f fd P_l_over_told (spOverTold K) := by
  refine fng F sc_l_over_told (by walk_at "ulen") (fun cdv A outer s H vs Q E hr0 hg0 h => ?_)
  have hr : Rm 2 (A.deeper (envOfC "_law_over_told" (defScope s_l_over_told) s.heap.objs.size f cdv)) := ⟨hr0, hg0⟩
  have nd : N_l_over_told.Nodup := sc_l_over_told.nd
  have tk : Takes (cxOf (L2.CX P w) P w K mg base N_l_over_told "_law_over_told" (defScope s_l_over_told) f cdv A outer s H E) (fun cls d _ H => E cls d H) := takes_of rfl rfl rfl rfl
  obtain ⟨v, w, n1, d1, n2, d2, rfl, h1, h2, L1, L2, k, kx⟩ := h
  refine ⟨_, (pss_one (ps_tryC tk (fun W_ pn_ xe_ tkb pob =>
      (pss_one (ps_ret (pe_tup (pa_cons pe_str (pa_cons (pe_c c_over (hr.mono (by decide)) (fun σ => passAt tkb σ) (pa_cons (pv 0) (pa_cons (pv 1) pa_nil))) pa_nil))))))
      (ClOk.named (i := 2) ⟨by rfl, by decide, Or.inl T.g_Nought⟩ nd rfl rfl
      (fun a_ oe_ cls_ d_ pn_ hz hf => (pss_cons (ps_if (PW.pt (pw_and (pt_val (pe_callB (call_isX hz hf) (by rfl) T.isinstance b_isinstance (pa_cons (pv 2) (pa_cons (pe_bltn (v := .ty "ValueError") (by rfl) T.ValueError b_ValueError rfl) pa_nil)))) (pw_and (pt_val (pe_callB (call_isX hz hf) (by rfl) T.isinstance b_isinstance (pa_cons (pv 2) (pa_cons (pe_gR T.g_EllError) pa_nil)))) (pw_and1 (pt_not (pt_val (pe_callB (call_isX hz hf) (by rfl) T.isinstance b_isinstance (pa_cons (pv 2) (pa_cons (pe_gR T.g_BadRatio) pa_nil))))))))) (pss_one (ps_ret (pe_tup (pa_cons pe_str (pa_cons (pe_xf T.xf_Nought T.xn_Nought_number hz hf (pv 2)) pa_nil))))) pss_nil)
    (pss_one (ps_ret (pe_tup (pa_cons pe_str (pa_cons pe_non pa_nil)))))))
      (ClOk.bare ⟨by rfl, by decide, Or.inl T.g_EllError⟩
      (fun a_ oe_ cls_ d_ pn_ hz hf => (pss_one (ps_ret (pe_tup (pa_cons pe_str (pa_cons pe_non pa_nil))))))
      ClOk.nil)))), ?_⟩
  walk_at "uk"
  walk_at "us"
  refine ⟨v, w, n1, d1, n2, d2, rfl, h1, h2, L1, L2, fun hd p H1 e1 hp => ?_, fun hd e H1 e1 he => ?_⟩
  · refine s_szN (Nat.le_of_ble_eq_true rfl) fun q hq => ?_
    have nq : p ≠ q := fun z => by rw [z, hq] at hp; cases hp
    exact k hd q p _ (e1.tr (exN hq)) (by rw [upd_ne nq]; exact hp) upd_same
  · refine s_hit T.mNN fun a ha => ?_
    dsimp only [setO, endO]
    walk_at "us"
    refine s_isXt he T.eN T.oNV ?_
    walk_at "us"
    refine s_isXr he T.eN T.oNE ?_
    walk_at "us"
    refine s_isXr he T.eN T.oNB ?_
    walk_at "ua"
    refine s_xfV rfl he rfl ?_
    walk_at "us"
    refine s_szN (Nat.le_of_ble_eq_true rfl) fun q hq => ?_
    exact kx hd q _ (e1.tr (exN hq)) upd_same
end
end Lw

set_option Elab.async false
set_option linter.all false
set_option maxRecDepth 100000
set_option maxHeartbeats 4000000
namespace Lw
open PySem PySem.Spec L2 Uv
open PyProof.Rows hiding St
local macro_rules | `(tactic| walk_at "umul") => `(tactic| fail)
local macro_rules | `(tactic| walk_at "us1") => `(tactic| first
  | (with_reducible refine s_seq ?_) | (with_reducible refine s_asg ?_) | (with_reducible refine s_gn ?_) | (with_reducible refine s_ret ?_) | (with_reducible refine s_drop ?_) | (with_reducible refine s_if ?_) | (with_reducible refine s_next ?_)
  | (with_reducible refine s_brk ?_) | (with_reducible refine s_cont ?_)
  | ((with_reducible refine' s_var ?hv ?_); (case hv => exact rfl)) | (with_reducible refine s_c ?_) | (with_reducible refine s_op ?_) | (with_reducible refine s_un ?_) | (with_reducible refine s_cb ?_) | (with_reducible refine s_call ?_)
  | (with_reducible refine s_cons ?_) | (with_reducible refine s_nil ?_) | (with_reducible refine s_test ?_) | (with_reducible refine s_tB ?_) | (with_reducible refine s_not ?_) | (with_reducible refine s_and ?_) | (with_reducible refine s_or ?_)
  | (with_reducible refine s_andV ?_) | (with_reducible refine s_orV ?_) | (with_reducible refine s_notV ?_) | (with_reducible refine s_ifE ?_) | (with_reducible refine s_bl ?_) | (with_reducible refine s_iT ?_) | (with_reducible refine s_iF ?_)
  | (with_reducible refine s_I0 ?_) | (with_reducible refine s_U ?_) | (with_reducible refine s_addI ?_) | (with_reducible refine s_eqI ?_) | (with_reducible refine s_eqS ?_) | (with_reducible refine s_eqB ?_) | (with_reducible refine s_neI ?_) | (with_reducible refine s_neS ?_) | (with_reducible refine s_neB ?_)
  | (with_reducible refine s_tupE ?_) | (with_reducible refine s_lstE ?_))
local macro_rules | `(tactic| walk_at "us") => `(tactic| repeat walk_at "us1")
local macro_rules | `(tactic| walk_at "ulen") => `(tactic| (intro vs H Q E h; repeat' (first | (obtain ⟨e, _⟩ := h; subst e; rfl) | (subst h; rfl) | (refine Or.elim h (fun h => ?_) (fun h => ?_)) | (obtain ⟨_, h⟩ := h))))
local macro_rules | `(tactic| walk_at "uk") => `(tactic| (try dsimp only [cxOf, Cx.suite, Cx.tr]))
local macro_rules | `(tactic| walk_at "us2") => `(tactic| first
  | walk_at "us1" | (with_reducible refine s_dput ?_) | ((with_reducible refine' s_mod ?hc ?_); (case hc => first | decide | assumption | omega))
  | (with_reducible refine s_for ?_) | (with_reducible refine s_lc ?_) | (with_reducible refine s_itl ?_) | (with_reducible refine s_itt ?_) | (with_reducible refine s_its ?_) | (with_reducible refine s_itr ?_) | (with_reducible refine s_itr2 ?_) | (with_reducible refine s_disp ?_) | (with_reducible refine s_prn ?_) | (with_reducible refine s_prc ?_) | (with_reducible refine s_m1 ?_) | (with_reducible refine s_isS ?_) | (with_reducible refine s_um1 ?_) | (with_reducible refine s_isB ?_) | (with_reducible refine s_isn ?_) | (with_reducible refine s_notn ?_) | (with_reducible refine s_jd ?_) | (with_reducible refine s_jn ?_) | (with_reducible refine s_jc ?_) | (with_reducible refine s_fmt ?_) | (with_reducible refine s_gc ?_) | (with_reducible refine s_gnil ?_) | (with_reducible refine s_yes ?_) | (with_reducible refine s_raise ?_)
  | ((with_reducible refine' s_pow ?hc ?_); (case hc => exact ⟨by decide, by decide, by decide⟩)) | (with_reducible refine s_int ?_) | (with_reducible refine s_intB ?_) | (with_reducible refine s_strS ?_) | (with_reducible refine s_abs ?_) | (with_reducible refine s_max ?_) | (with_reducible refine s_min ?_) | (with_reducible refine s_gcd ?_)
  | (with_reducible refine s_chain ?_) | (with_reducible refine s_sl ?_) | (with_reducible refine s_noP ?_) | (with_reducible refine s_part ?_) | (with_reducible refine s_exI ?_) 
  | ((with_reducible refine' s_mulI ?hc ?_); (case hc => first | exact Or.inl (Or.inr ⟨by decide, by decide⟩) | exact Or.inl (Or.inl ⟨by decide, by decide⟩) | exact Or.inl (Or.inl ⟨by omega, by omega⟩) | exact Or.inl (Or.inr ⟨by omega, by omega⟩) | walk_at "umul"))
  | ((with_reducible refine' s_ixT ?hc ?hd ?_); (case hc => assumption); (case hd => rfl))
  | ((with_reducible refine' s_lenL ?hc ?_); (case hc => first | assumption | exact SqL.of (by assumption))) | ((with_reducible refine' s_lenT ?hc ?_); (case hc => first | assumption | exact SqT.of (by assumption)))
  | ((with_reducible refine' s_divP ?hc ?hd ?_); (case hc => first | decide | assumption | omega); (case hd => first | decide +kernel | assumption)))
local macro_rules | `(tactic| walk_at "us") => `(tactic| repeat walk_at "us2")
local macro_rules | `(tactic| walk_at "uj") => `(tactic| ((walk_at "us"); with_reducible refine s_J ?_))
local macro_rules | `(tactic| walk_at "ua") => `(tactic| ((walk_at "us"); repeat ((first | (refine s_iF ?_) | (refine s_iT ?_)); (walk_at "us"))))
local macro_rules | `(tactic| walk_at "ub") => `(tactic| walk_at "ua")
local macro_rules | `(tactic| walk_at "umul") => `(tactic| exact Or.inr (mulB (by assumption) (by assumption)))
section
variable {P : Program} {w : World} {K : PySem.W.Frag} {mg : Str → Option Value} {base : Heap}
variable {cE cB cN : Addr}
theorem ok_l_read_told (T : Tp P K mg cE cB cN)
    (c_read_ratio : Cal P w K mg base 2 "read_ratio" P_read_ratio [] (spRead K cB))
    {f : Addr} {fd : FuncData} {dvs : List V} (F : FunD K "_law_read_told" "_law_read_told" (defArgs s_l_read_told) (defBody s_l_read_told) (defScope s_l_read_told) dvs [] f fd) : FnG P w K mg base 3 f fd P_l_read_told (spReadTold K) := by
  refine fng F sc_l_read_told (by walk_at "ulen") (fun cdv A outer s H vs Q E hr0 hg0 h => ?_)
  have hr : Rm 2 (A.deeper (envOfC "_law_read_told" (defScope s_l_read_told) s.heap.objs.size f cdv)) := ⟨hr0, hg0⟩
  have nd : N_l_read_told.Nodup := sc_l_read_told.nd
  have tk : Takes (cxOf (L2.CX P w) P w K mg base N_l_read_told "_law_read_told" (defScope s_l_read_told) f cdv A outer s H E) (fun cls d _ H => E cls d H) := takes_of rfl rfl rfl rfl
  obtain ⟨v, rfl, h⟩ := h
  refine ⟨_, (pss_one (ps_tryC tk (fun W_ pn_ xe_ tkb pob =>
      (pss_one (ps_ret (pe_tup (pa_cons pe_str (pa_cons (pe_c c_read_ratio (hr.mono (by decide)) (fun σ => passAt tkb σ) (pa_cons (pv 0) pa_nil)) pa_nil))))))
      (ClOk.named (i := 1) ⟨by rfl, by decide, Or.inl T.g_BadRatio⟩ nd rfl rfl
      (fun a_ oe_ cls_ d_ pn_ hz hf => (pss_cons (ps_if (PW.pt (pw_and (pt_val (pe_callB (call_isX hz hf) (by rfl) T.isinstance b_isinstance (pa_cons (pv 1) (pa_cons (pe_bltn (v := .ty "ValueError") (by rfl) T.ValueError b_ValueError rfl) pa_nil)))) (pw_and (pt_val (pe_callB (call_isX hz hf) (by rfl) T.isinstance b_isinstance (pa_cons (pv 1) (pa_cons (pe_gR T.g_EllError) pa_nil)))) (pw_and1 (pt_not (pt_val (pe_callB (call_isX hz hf) (by rfl) T.isinstance b_isinstance (pa_cons (pv 1) (pa_cons (pe_gR T.g_Nought) pa_nil))))))))) (pss_one (ps_ret (pe_tup (pa_cons pe_str (pa_cons (pe_xf T.xf_BadRatio T.xn_BadRatio_text hz hf (pv 1)) pa_nil))))) pss_nil)
    (pss_one (ps_ret (pe_tup (pa_cons pe_str (pa_cons pe_non pa_nil)))))))
      (ClOk.bare ⟨by rfl, by decide, Or.inl T.g_EllError⟩
      (fun a_ oe_ cls_ d_ pn_ hz hf => (pss_one (ps_ret (pe_tup (pa_cons pe_str (pa_cons pe_non pa_nil))))))
      ClOk.nil)))), ?_⟩
  walk_at "uk"
  walk_at "us"
  have bad : ∀ {W : WX} {r : List Cl} {D : Ends} {σ : L2.St}, True := trivial
  rcases h with ⟨z, rfl, hz, k, kx⟩ | ⟨ht, kx⟩
  · refine ⟨.str z, rfl, .inl ⟨z, rfl, hz, fun n d e p H1 e1 hp => ?_, fun e d H1 e1 he => ?_⟩⟩
    · refine s_szN (Nat.le_of_ble_eq_true rfl) fun q hq => ?_
      have nq : p ≠ q := fun z => by rw [z, hq] at hp; cases hp
      exact k n d e q p _ (e1.tr (exN hq)) (by rw [upd_ne nq]; exact hp) upd_same
    · refine s_hit T.mBB fun a ha => ?_
      dsimp only [setO, endO]
      walk_at "us"
      refine s_isXt he T.eB T.oBV ?_
      walk_at "us"
      refine s_isXr he T.eB T.oBE ?_
      walk_at "us"
      refine s_isXr he T.eB T.oBN ?_
      walk_at "ua"
      refine s_xfV rfl he rfl ?_
      walk_at "us"
      refine s_szN (Nat.le_of_ble_eq_true rfl) fun q hq => ?_
      exact kx e q _ (e1.tr (exN hq)) upd_same
  · refine ⟨v, rfl, .inr ⟨ht, fun d H1 e1 he => ?_⟩⟩
    refine s_hit T.mBB fun a ha => ?_
    dsimp only [setO, endO]
    walk_at "us"
    refine s_isXt he T.eB T.oBV ?_
    walk_at "us"
    refine s_isXr he T.eB T.oBE ?_
    walk_at "us"
    refine s_isXr he T.eB T.oBN ?_
    walk_at "ua"
    refine s_xfV rfl he rfl ?_
    walk_at "us"
    refine s_szN (Nat.le_of_ble_eq_true rfl) fun q hq => ?_
    exact kx q _ (e1.tr (exN hq)) upd_same
end
end Lw

set_option Elab.async false
set_option linter.all false
set_option maxRecDepth 100000
set_option maxHeartbeats 4000000
namespace Lw
open PySem PySem.Spec L2 Uv
open PyProof.Rows hiding St
local macro_rules | `(tactic| walk_at "umul") => `(tactic| fail)
local macro_rules | `(tactic| walk_at "us1") => `(tactic| first
  | (with_reducible refine s_seq ?_) | (with_reducible refine s_asg ?_) | (with_reducible refine s_gn ?_) | (with_reducible refine s_ret ?_) | (with_reducible refine s_drop ?_) | (with_reducible refine s_if ?_) | (with_reducible refine s_next ?_)
  | (with_reducible refine s_brk ?_) | (with_reducible refine s_cont ?_)
  | ((with_reducible refine' s_var ?hv ?_); (case hv => exact rfl)) | (with_reducible refine s_c ?_) | (with_reducible refine s_op ?_) | (with_reducible refine s_un ?_) | (with_reducible refine s_cb ?_) | (with_reducible refine s_call ?_)
  | (with_reducible refine s_cons ?_) | (with_reducible refine s_nil ?_) | (with_reducible refine s_test ?_) | (with_reducible refine s_tB ?_) | (with_reducible refine s_not ?_) | (with_reducible refine s_and ?_) | (with_reducible refine s_or ?_)
  | (with_reducible refine s_andV ?_) | (with_reducible refine s_orV ?_) | (with_reducible refine s_notV ?_) | (with_reducible refine s_ifE ?_) | (with_reducible refine s_bl ?_) | (with_reducible refine s_iT ?_) | (with_reducible refine s_iF ?_)
  | (with_reducible refine s_I0 ?_) | (with_reducible refine s_U ?_) | (with_reducible refine s_addI ?_) | (with_reducible refine s_eqI ?_) | (with_reducible refine s_eqS ?_) | (with_reducible refine s_eqB ?_) | (with_reducible refine s_neI ?_) | (with_reducible refine s_neS ?_) | (with_reducible refine s_neB ?_)
  | (with_reducible refine s_tupE ?_) | (with_reducible refine s_lstE ?_))
local macro_rules | `(tactic| walk_at "us") => `(tactic| repeat walk_at "us1")
local macro_rules | `(tactic| walk_at "ulen") => `(tactic| (intro vs H Q E h; repeat' (first | (obtain ⟨e, _⟩ := h; subst e; rfl) | (subst h; rfl) | (refine Or.elim h (fun h => ?_) (fun h => ?_)) | (obtain ⟨_, h⟩ := h))))
local macro_rules | `(tactic| walk_at "uk") => `(tactic| (try dsimp only [cxOf, Cx.suite, Cx.tr]))
local macro_rules | `(tactic| walk_at "us2") => `(tactic| first
  | walk_at "us1" | (with_reducible refine s_dput ?_) | ((with_reducible refine' s_mod ?hc ?_); (case hc => first | decide | assumption | omega))
  | (with_reducible refine s_for ?_) | (with_reducible refine s_lc ?_) | (with_reducible refine s_itl ?_) | (with_reducible refine s_itt ?_) | (with_reducible refine s_its ?_) | (with_reducible refine s_itr ?_) | (with_reducible refine s_itr2 ?_) | (with_reducible refine s_disp ?_) | (with_reducible refine s_prn ?_) | (with_reducible refine s_prc ?_) | (with_reducible refine s_m1 ?_) | (with_reducible refine s_isS ?_) | (with_reducible refine s_um1 ?_) | (with_reducible refine s_isB ?_) | (with_reducible refine s_isn ?_) | (with_reducible refine s_notn ?_) | (with_reducible refine s_jd ?_) | (with_reducible refine s_jn ?_) | (with_reducible refine s_jc ?_) | (with_reducible refine s_fmt ?_) | (with_reducible refine s_gc ?_) | (with_reducible refine s_gnil ?_) | (with_reducible refine s_yes ?_) | (with_reducible refine s_raise ?_)
  | ((with_reducible refine' s_pow ?hc ?_); (case hc => exact ⟨by decide, by decide, by decide⟩)) | (with_reducible refine s_int ?_) | (with_reducible refine s_intB ?_) | (with_reducible refine s_strS ?_) | (with_reducible refine s_abs ?_) | (with_reducible refine s_max ?_) | (with_reducible refine s_min ?_) | (with_reducible refine s_gcd ?_)
  | (with_reducible refine s_chain ?_) | (with_reducible refine s_sl ?_) | (with_reducible refine s_noP ?_) | (with_reducible refine s_part ?_) | (with_reducible refine s_exI ?_) 
  | ((with_reducible refine' s_mulI ?hc ?_); (case hc => first | exact Or.inl (Or.inr ⟨by decide, by decide⟩) | exact Or.inl (Or.inl ⟨by decide, by decide⟩) | exact Or.inl (Or.inl ⟨by omega, by omega⟩) | exact Or.inl (Or.inr ⟨by omega, by omega⟩) | walk_at "umul"))
  | ((with_reducible refine' s_ixT ?hc ?hd ?_); (case hc => assumption); (case hd => rfl))
  | ((with_reducible refine' s_lenL ?hc ?_); (case hc => first | assumption | exact SqL.of (by assumption))) | ((with_reducible refine' s_lenT ?hc ?_); (case hc => first | assumption | exact SqT.of (by assumption)))
  | ((with_reducible refine' s_divP ?hc ?hd ?_); (case hc => first | decide | assumption | omega); (case hd => first | decide +kernel | assumption)))
local macro_rules | `(tactic| walk_at "us") => `(tactic| repeat walk_at "us2")
local macro_rules | `(tactic| walk_at "uj") => `(tactic| ((walk_at "us"); with_reducible refine s_J ?_))
local macro_rules | `(tactic| walk_at "ua") => `(tactic| ((walk_at "us"); repeat ((first | (refine s_iF ?_) | (refine s_iT ?_)); (walk_at "us"))))
local macro_rules | `(tactic| walk_at "ub") => `(tactic| walk_at "ua")
local macro_rules | `(tactic| walk_at "umul") => `(tactic| exact Or.inr (mulB (by assumption) (by assumption)))
theorem rat_one (n : Int) : rN n 1 = n ∧ rD n 1 = 1 := by
  have e : gN n 1 = 1 := by unfold gN; rw [if_pos (by decide)]; simp
  unfold rN rD
  rw [e]
  simp
section
variable {P : Program} {w : World} {K : PySem.W.Frag} {mg : Str → Option Value} {base : Heap}
variable {cE cB cN : Addr}
theorem ok_l_right_making (T : Tp P K mg cE cB cN)
    (c_l_integer : Cal P w K mg base 1 "_law_integer" P_l_integer [] (spInteger K))
    (c_l_ratio : Cal P w K mg base 2 "_law_ratio" P_l_ratio [] (spLRatio))
    (c_l_ratio_told : Cal P w K mg base 2 "_law_ratio_told" P_l_ratio_told [] (spRatioTold))
    (c_l_same : Cal P w K mg base 2 "_law_same" P_l_same [] (spSame K))
    (c_ratio_1 : Cal P w K mg base 1 "ratio" P_ratio [.int 1] (spRatio cN))
    (c_ratio_2 : Cal P w K mg base 1 "ratio" P_ratio [] (spRatio cN))
    {f : Addr} {fd : FuncData} {dvs : List V} (F : FunD K "_law_right_making" "_law_right_making" (defArgs s_l_right_making) (defBody s_l_right_making) (defScope s_l_right_making) dvs [] f fd) : FnG P w K mg base 3 f fd P_l_right_making (spRightMaking) := by
  refine fng F sc_l_right_making (by walk_at "ulen") (fun cdv A outer s H vs Q E hr0 hg0 h => ?_)
  have hr : Rm 2 (A.deeper (envOfC "_law_right_making" (defScope s_l_right_making) s.heap.objs.size f cdv)) := ⟨hr0, hg0⟩
  have nd : N_l_right_making.Nodup := sc_l_right_making.nd
  obtain ⟨n, d, rfl, bn, bd, k⟩ := h
  refine ⟨_, (pss_cons (ps_if (PW.pt (pw_or (pt_not (pt_val (pe_c (E := En) c_l_same (hr.mono (by decide)) paN (pa_cons (pe_c (E := En) c_ratio_1 (hr.mono (by decide)) paN (pa_cons (pv 0) pa_nil)) (pa_cons (pe_tup (pa_cons (pv 0) (pa_cons pe_int pa_nil))) pa_nil))))) (pw_or1 (pt_not (pt_val (pe_c (E := En) c_l_same (hr.mono (by decide)) paN (pa_cons (pe_c (E := En) c_ratio_2 (hr.mono (by decide)) paN (pa_cons (pv 0) (pa_cons pe_int pa_nil))) (pa_cons (pe_tup (pa_cons (pv 0) (pa_cons pe_int pa_nil))) pa_nil)))))))) (pss_one (ps_ret pe_bl)) pss_nil)
    (pss_cons (ps_set (i := 2) nd rfl (Or.inl rfl) (pe_c (E := En) c_l_ratio_told (hr.mono (by decide)) paN (pa_cons (pv 0) (pa_cons (pv 1) pa_nil))))
    (pss_cons (ps_if (pt_cmpR (op_uEq hr.r.units) (pv 1) pe_int (nomark _)) (pss_one (ps_ret (pe_and (pe_cmpR (op_uEq hr.r.units) (pe_ix ix_seq (pv 2) pe_int (fun _ _ => rfl)) pe_str (nomark _)) (pe_and (pe_c (E := En) c_l_integer (hr.mono (by decide)) paN (pa_cons (pe_ix ix_seq (pv 2) pe_int (fun _ _ => rfl)) pa_nil)) (pe_one (pe_cmpR (op_uEq hr.r.units) (pe_ix ix_seq (pv 2) pe_int (fun _ _ => rfl)) (pv 0) (nomark _))))))) pss_nil)
    (pss_one (ps_ret (pe_and (pe_cmpR (op_uEq hr.r.units) (pe_ix ix_seq (pv 2) pe_int (fun _ _ => rfl)) pe_str (nomark _)) (pe_one (pe_c (E := En) c_l_same (hr.mono (by decide)) paN (pa_cons (pe_ix ix_seq (pv 2) pe_int (fun _ _ => rfl)) (pa_cons (pe_c (E := En) c_l_ratio (hr.mono (by decide)) paN (pa_cons (pv 0) (pa_cons (pv 1) pa_nil))) pa_nil)))))))))), ?_⟩
  walk_at "uk"
  obtain ⟨r1, r2⟩ := rat_one n
  walk_at "us"
  refine ⟨n, 1, rfl, bn, by decide +kernel, fun _ p1 H1 e1 hp1 => ?_, fun z => by cases z⟩
  rw [r1, r2] at hp1
  walk_at "us"
  refine s_szN (Nat.le_of_ble_eq_true rfl) fun q1 hq1 => ?_
  walk_at "us"
  have e2 := e1.tr (exN (o := .tup [.int n, .int 1]) hq1)
  refine ⟨_, _, n, 1, rfl, ⟨p1, rfl, .of (exN hq1 _ _ hp1)⟩, ⟨q1, rfl, .of upd_same⟩, ?_⟩
  generalize upd H1 q1 (.tup [.int n, .int 1]) = H2 at e2
  walk_at "ua"
  refine ⟨n, 1, rfl, bn, by decide +kernel, fun _ p3 H3 e3 hp3 => ?_, fun z => by cases z⟩
  rw [r1, r2] at hp3
  walk_at "us"
  refine s_szN (Nat.le_of_ble_eq_true rfl) fun q3 hq3 => ?_
  walk_at "us"
  have e4 := (e2.tr e3).tr (exN (o := .tup [.int n, .int 1]) hq3)
  refine ⟨_, _, n, 1, rfl, ⟨p3, rfl, .of (exN hq3 _ _ hp3)⟩, ⟨q3, rfl, .of upd_same⟩, ?_⟩
  generalize upd H3 q3 (.tup [.int n, .int 1]) = H4 at e4
  walk_at "ua"
  refine ⟨n, d, rfl, bn, bd, fun hd q p H5 e5 hp hq => ?_, fun hd q H5 e5 hq => ?_⟩
  · walk_at "us"
    refine s_ite (fun z => absurd z hd) (fun _ => ?_)
    walk_at "us"
    refine s_ixT (.of hq) rfl ?_
    walk_at "ua"
    refine s_ixT (.of hq) rfl ?_
    walk_at "ua"
    refine ⟨n, d, rfl, bn, bd, hd, fun p6 H6 e6 hp6 => ?_⟩
    walk_at "us"
    exact ⟨_, _, _, _, rfl, ⟨p, rfl, .of (e6 _ _ hp)⟩, ⟨p6, rfl, .of hp6⟩, k _ ((e4.tr e5).tr e6)⟩
  · walk_at "us"
    refine s_ite (fun _ => ?_) (fun z => absurd hd z)
    walk_at "us"
    refine s_ixT (.of hq) rfl ?_
    walk_at "ua"
    refine s_ixT (.of hq) rfl ?_
    walk_at "ua"
    refine ⟨n, rfl, ?_⟩
    walk_at "ua"
    refine s_ixT (.of hq) rfl ?_
    walk_at "ua"
    rw [decide_eq_true rfl]
    exact k _ (e4.tr e5)
end
end Lw

set_option Elab.async false
set_option linter.all false
set_option maxRecDepth 100000
set_option maxHeartbeats 4000000
namespace Lw
open PySem PySem.Spec L2 Uv
open PyProof.Rows hiding St
local macro_rules | `(tactic| walk_at "umul") => `(tactic| fail)
local macro_rules | `(tactic| walk_at "us1") => `(tactic| first
  | (with_reducible refine s_seq ?_) | (with_reducible refine s_asg ?_) | (with_reducible refine s_gn ?_) | (with_reducible refine s_ret ?_) | (with_reducible refine s_drop ?_) | (with_reducible refine s_if ?_) | (with_reducible refine s_next ?_)
  | (with_reducible refine s_brk ?_) | (with_reducible refine s_cont ?_)
  | ((with_reducible refine' s_var ?hv ?_); (case hv => exact rfl)) | (with_reducible refine s_c ?_) | (with_reducible refine s_op ?_) | (with_reducible refine s_un ?_) | (with_reducible refine s_cb ?_) | (with_reducible refine s_call ?_)
  | (with_reducible refine s_cons ?_) | (with_reducible refine s_nil ?_) | (with_reducible refine s_test ?_) | (with_reducible refine s_tB ?_) | (with_reducible refine s_not ?_) | (with_reducible refine s_and ?_) | (with_reducible refine s_or ?_)
  | (with_reducible refine s_andV ?_) | (with_reducible refine s_orV ?_) | (with_reducible refine s_notV ?_) | (with_reducible refine s_ifE ?_) | (with_reducible refine s_bl ?_) | (with_reducible refine s_iT ?_) | (with_reducible refine s_iF ?_)
  | (with_reducible refine s_I0 ?_) | (with_reducible refine s_U ?_) | (with_reducible refine s_addI ?_) | (with_reducible refine s_eqI ?_) | (with_reducible refine s_eqS ?_) | (with_reducible refine s_eqB ?_) | (with_reducible refine s_neI ?_) | (with_reducible refine s_neS ?_) | (with_reducible refine s_neB ?_)
  | (with_reducible refine s_tupE ?_) | (with_reducible refine s_lstE ?_))
local macro_rules | `(tactic| walk_at "us") => `(tactic| repeat walk_at "us1")
local macro_rules | `(tactic| walk_at "ulen") => `(tactic| (intro vs H Q E h; repeat' (first | (obtain ⟨e, _⟩ := h; subst e; rfl) | (subst h; rfl) | (refine Or.elim h (fun h => ?_) (fun h => ?_)) | (obtain ⟨_, h⟩ := h))))
local macro_rules | `(tactic| walk_at "uk") => `(tactic| (try dsimp only [cxOf, Cx.suite, Cx.tr]))
local macro_rules | `(tactic| walk_at "us2") => `(tactic| first
  | walk_at "us1" | (with_reducible refine s_dput ?_) | ((with_reducible refine' s_mod ?hc ?_); (case hc => first | decide | assumption | omega))
  | (with_reducible refine s_for ?_) | (with_reducible refine s_lc ?_) | (with_reducible refine s_itl ?_) | (with_reducible refine s_itt ?_) | (with_reducible refine s_its ?_) | (with_reducible refine s_itr ?_) | (with_reducible refine s_itr2 ?_) | (with_reducible refine s_disp ?_) | (with_reducible refine s_prn ?_) | (with_reducible refine s_prc ?_) | (with_reducible refine s_m1 ?_) | (with_reducible refine s_isS ?_) | (with_reducible refine s_um1 ?_) | (with_reducible refine s_isB ?_) | (with_reducible refine s_isn ?_) | (with_reducible refine s_notn ?_) | (with_reducible refine s_jd ?_) | (with_reducible refine s_jn ?_) | (with_reducible refine s_jc ?_) | (with_reducible refine s_fmt ?_) | (with_reducible refine s_gc ?_) | (with_reducible refine s_gnil ?_) | (with_reducible refine s_yes ?_) | (with_reducible refine s_raise ?_)
  | ((with_reducible refine' s_pow ?hc ?_); (case hc => exact ⟨by decide, by decide, by decide⟩)) | (with_reducible refine s_int ?_) | (with_reducible refine s_intB ?_) | (with_reducible refine s_strS ?_) | (with_reducible refine s_abs ?_) | (with_reducible refine s_max ?_) | (with_reducible refine s_min ?_) | (with_reducible refine s_gcd ?_)
  | (with_reducible refine s_chain ?_) | (with_reducible refine s_sl ?_) | (with_reducible refine s_noP ?_) | (with_reducible refine s_part ?_) | (with_reducible refine s_exI ?_) 
  | ((with_reducible refine' s_mulI ?hc ?_); (case hc => first | exact Or.inl (Or.inr ⟨by decide, by decide⟩) | exact Or.inl (Or.inl ⟨by decide, by decide⟩) | exact Or.inl (Or.inl ⟨by omega, by omega⟩) | exact Or.inl (Or.inr ⟨by omega, by omega⟩) | walk_at "umul"))
  | ((with_reducible refine' s_ixT ?hc ?hd ?_); (case hc => assumption); (case hd => rfl))
  | ((with_reducible refine' s_lenL ?hc ?_); (case hc => first | assumption | exact SqL.of (by assumption))) | ((with_reducible refine' s_lenT ?hc ?_); (case hc => first | assumption | exact SqT.of (by assumption)))
  | ((with_reducible refine' s_divP ?hc ?hd ?_); (case hc => first | decide | assumption | omega); (case hd => first | decide +kernel | assumption)))
local macro_rules | `(tactic| walk_at "us") => `(tactic| repeat walk_at "us2")
local macro_rules | `(tactic| walk_at "uj") => `(tactic| ((walk_at "us"); with_reducible refine s_J ?_))
local macro_rules | `(tactic| walk_at "ua") => `(tactic| ((walk_at "us"); repeat ((first | (refine s_iF ?_) | (refine s_iT ?_)); (walk_at "us"))))
local macro_rules | `(tactic| walk_at "ub") => `(tactic| walk_at "ua")
local macro_rules | `(tactic| walk_at "umul") => `(tactic| exact Or.inr (mulB (by assumption) (by assumption)))
section
variable {P : Program} {w : World} {K : PySem.W.Frag} {mg : Str → Option Value} {base : Heap}
variable {cE cB cN : Addr}
theorem ok_l_right_reckoning (T : Tp P K mg cE cB cN)
    (c_compare : Cal P w K mg base 1 "compare" P_compare [] (spCompare K))
    (c_l_integer : Cal P w K mg base 1 "_law_integer" P_l_integer [] (spInteger K))
    (c_l_minus : Cal P w K mg base 3 "_law_minus" P_l_minus [] (spMinus K))
    (c_l_over : Cal P w K mg base 3 "_law_over" P_l_over [] (spLOver K))
    (c_l_over_told : Cal P w K mg base 3 "_law_over_told" P_l_over_told [] (spOverTold K))
    (c_l_plus : Cal P w K mg base 3 "_law_plus" P_l_plus [] (spPlus K))
    (c_l_same : Cal P w K mg base 2 "_law_same" P_l_same [] (spSame K))
    (c_l_times : Cal P w K mg base 3 "_law_times" P_l_times [] (spTimes K))
    (c_minus : Cal P w K mg base 2 "minus" P_minus [] (spMinus K))
    (c_plus : Cal P w K mg base 2 "plus" P_plus [] (spPlus K))
    (c_times : Cal P w K mg base 2 "times" P_times [] (spTimes K))
    {f : Addr} {fd : FuncData} {dvs : List V} (F : FunD K "_law_right_reckoning" "_law_right_reckoning" (defArgs s_l_right_reckoning) (defBody s_l_right_reckoning) (defScope s_l_right_reckoning) dvs [] f fd) : FnG P w K mg base 4 f fd P_l_right_reckoning (spRightReckoning K) := by
  refine fng F sc_l_right_reckoning (by walk_at "ulen") (fun cdv A outer s H vs Q E hr0 hg0 h => ?_)
  have hr : Rm 3 (A.deeper (envOfC "_law_right_reckoning" (defScope s_l_right_reckoning) s.heap.objs.size f cdv)) := ⟨hr0, hg0⟩
  have nd : N_l_right_reckoning.Nodup := sc_l_right_reckoning.nd
  obtain ⟨v, w, n1, d1, n2, d2, rfl, ⟨p1, rfl, h1⟩, ⟨p2, rfl, h2⟩, LA, LB, k⟩ := h
  obtain ⟨x1, x2, x3, x4⟩ : n1.natAbs ≤ big ∧ d1.natAbs ≤ big ∧ n2.natAbs ≤ big ∧ d2.natAbs ≤ big := ⟨LA.bn, LA.bd, LB.bn, LB.bd⟩
  refine ⟨_, (pss_cons (ps_set (i := 2) nd rfl (Or.inl rfl) (pe_op op_sub (pe_op op_uMul (pe_ix ix_seq (pv 0) pe_int (fun _ _ => rfl)) (pe_ix ix_seq (pv 1) pe_int (fun _ _ => rfl))) (pe_op op_uMul (pe_ix ix_seq (pv 1) pe_int (fun _ _ => rfl)) (pe_ix ix_seq (pv 0) pe_int (fun _ _ => rfl)))))
    (pss_cons (ps_set (i := 3) nd rfl (Or.inl rfl) pe_int)
    (pss_consJ (ps_if (pt_cmpR op_gt (pv 2) pe_int (nomark _)) (pss_one (ps_set (i := 3) nd rfl (Or.inl rfl) pe_int)) pss_nil)
    (pss_consJ (ps_if (pt_cmpR op_lt (pv 2) pe_int (nomark _)) (pss_one (ps_set (i := 3) nd rfl (Or.inl rfl) (pe_un un_neg pe_int))) pss_nil)
    (pss_cons (ps_set (i := 4) nd rfl (Or.inl rfl) (pe_c (E := En) c_compare (hr.mono (by decide)) paN (pa_cons (pv 0) (pa_cons (pv 1) pa_nil))))
    (pss_cons (ps_if (PW.pt (pw_or (pt_not (pt_val (pe_c (E := En) c_l_integer (hr.mono (by decide)) paN (pa_cons (pv 4) pa_nil)))) (pw_or1 (pt_cmpR (op_uNe hr.r.units) (pv 4) (pv 3) (nomark _))))) (pss_one (ps_ret pe_bl)) pss_nil)
    (pss_cons (ps_if (PW.pt (pw_or (pt_not (pt_val (pe_c (E := En) c_l_same (hr.mono (by decide)) paN (pa_cons (pe_c (E := En) c_plus (hr.mono (by decide)) paN (pa_cons (pv 0) (pa_cons (pv 1) pa_nil))) (pa_cons (pe_c (E := En) c_l_plus (hr.mono (by decide)) paN (pa_cons (pv 0) (pa_cons (pv 1) pa_nil))) pa_nil))))) (pw_or1 (pt_not (pt_val (pe_c (E := En) c_l_same (hr.mono (by decide)) paN (pa_cons (pe_c (E := En) c_minus (hr.mono (by decide)) paN (pa_cons (pv 0) (pa_cons (pv 1) pa_nil))) (pa_cons (pe_c (E := En) c_l_minus (hr.mono (by decide)) paN (pa_cons (pv 0) (pa_cons (pv 1) pa_nil))) pa_nil)))))))) (pss_one (ps_ret pe_bl)) pss_nil)
    (pss_cons (ps_if (pt_not (pt_val (pe_c (E := En) c_l_same (hr.mono (by decide)) paN (pa_cons (pe_c (E := En) c_times (hr.mono (by decide)) paN (pa_cons (pv 0) (pa_cons (pv 1) pa_nil))) (pa_cons (pe_c (E := En) c_l_times (hr.mono (by decide)) paN (pa_cons (pv 0) (pa_cons (pv 1) pa_nil))) pa_nil))))) (pss_one (ps_ret pe_bl)) pss_nil)
    (pss_cons (ps_set (i := 4) nd rfl (Or.inl rfl) (pe_c (E := En) c_l_over_told (hr.mono (by decide)) paN (pa_cons (pv 0) (pa_cons (pv 1) pa_nil))))
    (pss_cons (ps_if (pt_cmpR (op_uEq hr.r.units) (pe_ix ix_seq (pv 1) pe_int (fun _ _ => rfl)) pe_int (nomark _)) (pss_one (ps_ret (pe_and (pe_cmpR (op_uEq hr.r.units) (pe_ix ix_seq (pv 4) pe_int (fun _ _ => rfl)) pe_str (nomark _)) (pe_one (pe_c (E := En) c_l_same (hr.mono (by decide)) paN (pa_cons (pe_ix ix_seq (pv 4) pe_int (fun _ _ => rfl)) (pa_cons (pv 0) pa_nil))))))) pss_nil)
    (pss_one (ps_ret (pe_and (pe_cmpR (op_uEq hr.r.units) (pe_ix ix_seq (pv 4) pe_int (fun _ _ => rfl)) pe_str (nomark _)) (pe_one (pe_c (E := En) c_l_same (hr.mono (by decide)) paN (pa_cons (pe_ix ix_seq (pv 4) pe_int (fun _ _ => rfl)) (pa_cons (pe_c (E := En) c_l_over (hr.mono (by decide)) paN (pa_cons (pv 0) (pa_cons (pv 1) pa_nil))) pa_nil))))))))))))))))), ?_⟩
  walk_at "uk"
  walk_at "uj"
  refine s_seqJ (fun σ' H' => H = H' ∧ σ' = ((L2.start N_l_right_reckoning [.ref p1, .ref p2]).set 2 (some (.int (n1 * d2 - n2 * d1)))).set 3 (some (.int (if n1 * d2 > n2 * d1 then 1 else 0)))) ?_ (fun R hR => ?_)
  · rintro σ' _ ⟨rfl, rfl⟩
    walk_at "uj"
    refine s_seqJ (fun σ' H' => H = H' ∧ σ' = ((L2.start N_l_right_reckoning [.ref p1, .ref p2]).set 2 (some (.int (n1 * d2 - n2 * d1)))).set 3 (some (.int (if n1 * d2 < n2 * d1 then -1 else if n1 * d2 > n2 * d1 then 1 else 0)))) ?_ (fun R hR => ?_)
    · rintro σ' _ ⟨rfl, rfl⟩
      walk_at "us"
      refine ⟨_, _, n1, d1, n2, d2, rfl, ⟨p1, rfl, h1⟩, ⟨p2, rfl, h2⟩, LA, LB, ?_⟩
      walk_at "us"
      refine ⟨_, rfl, ?_⟩
      walk_at "ua"
      rw [decide_eq_true rfl]
      walk_at "ua"
      refine ⟨_, _, n1, d1, n2, d2, rfl, ⟨p1, rfl, h1⟩, ⟨p2, rfl, h2⟩, LA, LB, trivial, fun a1 H1 e1 ha1 => ?_⟩
      walk_at "us"
      refine ⟨_, _, n1, d1, n2, d2, rfl, ⟨p1, rfl, Ex.st h1 e1⟩, ⟨p2, rfl, Ex.st h2 e1⟩, LA, LB, trivial, fun a2 H2 e2 ha2 => ?_⟩
      walk_at "us"
      refine ⟨_, _, _, _, rfl, ⟨a1, rfl, .of (e2 _ _ ha1)⟩, ⟨a2, rfl, .of ha2⟩, ?_⟩
      have e12 := e1.tr e2
      walk_at "ua"
      refine ⟨_, _, n1, d1, n2, d2, rfl, ⟨p1, rfl, Ex.st h1 e12⟩, ⟨p2, rfl, Ex.st h2 e12⟩, LA, LB, trivial, fun a3 H3 e3 ha3 => ?_⟩
      have e13 := e12.tr e3
      walk_at "us"
      refine ⟨_, _, n1, d1, n2, d2, rfl, ⟨p1, rfl, Ex.st h1 e13⟩, ⟨p2, rfl, Ex.st h2 e13⟩, LA, LB, trivial, fun a4 H4 e4 ha4 => ?_⟩
      walk_at "us"
      refine ⟨_, _, _, _, rfl, ⟨a3, rfl, .of (e4 _ _ ha3)⟩, ⟨a4, rfl, .of ha4⟩, ?_⟩
      have e14 := e13.tr e4
      walk_at "ua"
      refine ⟨_, _, n1, d1, n2, d2, rfl, ⟨p1, rfl, Ex.st h1 e14⟩, ⟨p2, rfl, Ex.st h2 e14⟩, LA, LB, trivial, fun a5 H5 e5 ha5 => ?_⟩
      have e15 := e14.tr e5
      walk_at "us"
      refine ⟨_, _, n1, d1, n2, d2, rfl, ⟨p1, rfl, Ex.st h1 e15⟩, ⟨p2, rfl, Ex.st h2 e15⟩, LA, LB, trivial, fun a6 H6 e6 ha6 => ?_⟩
      walk_at "us"
      refine ⟨_, _, _, _, rfl, ⟨a5, rfl, .of (e6 _ _ ha5)⟩, ⟨a6, rfl, .of ha6⟩, ?_⟩
      have e16 := e15.tr e6
      have g1 := Ex.st h1 e16
      have g2 := Ex.st h2 e16
      walk_at "ua"
      refine ⟨_, _, n1, d1, n2, d2, rfl, ⟨p1, rfl, g1⟩, ⟨p2, rfl, g2⟩, LA, LB, fun hd q p H7 e7 hp hq => ?_, fun hd q H7 e7 hq => ?_⟩
      · have f1 := Ex.st g1 e7
        have f2 := Ex.st g2 e7
        walk_at "us"
        refine s_ite (fun z => absurd z hd) (fun _ => ?_)
        walk_at "us"
        refine s_ixT (.of hq) rfl ?_
        walk_at "ua"
        refine s_ixT (.of hq) rfl ?_
        walk_at "ua"
        refine ⟨_, _, n1, d1, n2, d2, rfl, ⟨p1, rfl, f1⟩, ⟨p2, rfl, f2⟩, LA, LB, hd, fun a8 H8 e8 ha8 => ?_⟩
        walk_at "us"
        exact ⟨_, _, _, _, rfl, ⟨p, rfl, .of (e8 _ _ hp)⟩, ⟨a8, rfl, .of ha8⟩, k _ ((e16.tr e7).tr e8)⟩
      · have f1 := Ex.st g1 e7
        have f2 := Ex.st g2 e7
        walk_at "us"
        refine s_ite (fun _ => ?_) (fun z => absurd hd z)
        walk_at "us"
        refine s_ixT (.of hq) rfl ?_
        walk_at "ua"
        refine s_ixT (.of hq) rfl ?_
        walk_at "ua"
        exact ⟨_, _, _, _, rfl, ⟨p1, rfl, f1⟩, ⟨p1, rfl, f1⟩, k _ (e16.tr e7)⟩
    · walk_at "us"
      refine s_ite (fun hc => ?_) (fun hc => ?_)
      · walk_at "us"
        exact hR _ _ ⟨rfl, by rw [if_pos (show n1 * d2 < n2 * d1 by omega)]; rfl⟩
      · walk_at "us"
        exact hR _ _ ⟨rfl, by rw [if_neg (show ¬ n1 * d2 < n2 * d1 by omega)]⟩
  · walk_at "us"
    refine s_ite (fun hc => ?_) (fun hc => ?_)
    · walk_at "us"
      exact hR _ _ ⟨rfl, by rw [if_pos (show n1 * d2 > n2 * d1 by omega)]; rfl⟩
    · walk_at "us"
      exact hR _ _ ⟨rfl, by rw [if_neg (show ¬ n1 * d2 > n2 * d1 by omega)]⟩
end
end Lw

set_option Elab.async false
set_option linter.all false
set_option maxRecDepth 100000
set_option maxHeartbeats 4000000
namespace Lw
open PySem PySem.Spec L2 Uv
open PyProof.Rows hiding St
local macro_rules | `(tactic| walk_at "umul") => `(tactic| fail)
local macro_rules | `(tactic| walk_at "us1") => `(tactic| first
  | (with_reducible refine s_seq ?_) | (with_reducible refine s_asg ?_) | (with_reducible refine s_gn ?_) | (with_reducible refine s_ret ?_) | (with_reducible refine s_drop ?_) | (with_reducible refine s_if ?_) | (with_reducible refine s_next ?_)
  | (with_reducible refine s_brk ?_) | (with_reducible refine s_cont ?_)
  | ((with_reducible refine' s_var ?hv ?_); (case hv => exact rfl)) | (with_reducible refine s_c ?_) | (with_reducible refine s_op ?_) | (with_reducible refine s_un ?_) | (with_reducible refine s_cb ?_) | (with_reducible refine s_call ?_)
  | (with_reducible refine s_cons ?_) | (with_reducible refine s_nil ?_) | (with_reducible refine s_test ?_) | (with_reducible refine s_tB ?_) | (with_reducible refine s_not ?_) | (with_reducible refine s_and ?_) | (with_reducible refine s_or ?_)
  | (with_reducible refine s_andV ?_) | (with_reducible refine s_orV ?_) | (with_reducible refine s_notV ?_) | (with_reducible refine s_ifE ?_) | (with_reducible refine s_bl ?_) | (with_reducible refine s_iT ?_) | (with_reducible refine s_iF ?_)
  | (with_reducible refine s_I0 ?_) | (with_reducible refine s_U ?_) | (with_reducible refine s_addI ?_) | (with_reducible refine s_eqI ?_) | (with_reducible refine s_eqS ?_) | (with_reducible refine s_eqB ?_) | (with_reducible refine s_neI ?_) | (with_reducible refine s_neS ?_) | (with_reducible refine s_neB ?_)
  | (with_reducible refine s_tupE ?_) | (with_reducible refine s_lstE ?_))
local macro_rules | `(tactic| walk_at "us") => `(tactic| repeat walk_at "us1")
local macro_rules | `(tactic| walk_at "ulen") => `(tactic| (intro vs H Q E h; repeat' (first | (obtain ⟨e, _⟩ := h; subst e; rfl) | (subst h; rfl) | (refine Or.elim h (fun h => ?_) (fun h => ?_)) | (obtain ⟨_, h⟩ := h))))
local macro_rules | `(tactic| walk_at "uk") => `(tactic| (try dsimp only [cxOf, Cx.suite, Cx.tr]))
local macro_rules | `(tactic| walk_at "us2") => `(tactic| first
  | walk_at "us1" | (with_reducible refine s_dput ?_) | ((with_reducible refine' s_mod ?hc ?_); (case hc => first | decide | assumption | omega))
  | (with_reducible refine s_for ?_) | (with_reducible refine s_lc ?_) | (with_reducible refine s_itl ?_) | (with_reducible refine s_itt ?_) | (with_reducible refine s_its ?_) | (with_reducible refine s_itr ?_) | (with_reducible refine s_itr2 ?_) | (with_reducible refine s_disp ?_) | (with_reducible refine s_prn ?_) | (with_reducible refine s_prc ?_) | (with_reducible refine s_m1 ?_) | (with_reducible refine s_isS ?_) | (with_reducible refine s_um1 ?_) | (with_reducible refine s_isB ?_) | (with_reducible refine s_isn ?_) | (with_reducible refine s_notn ?_) | (with_reducible refine s_jd ?_) | (with_reducible refine s_jn ?_) | (with_reducible refine s_jc ?_) | (with_reducible refine s_fmt ?_) | (with_reducible refine s_gc ?_) | (with_reducible refine s_gnil ?_) | (with_reducible refine s_yes ?_) | (with_reducible refine s_raise ?_)
  | ((with_reducible refine' s_pow ?hc ?_); (case hc => exact ⟨by decide, by decide, by decide⟩)) | (with_reducible refine s_int ?_) | (with_reducible refine s_intB ?_) | (with_reducible refine s_strS ?_) | (with_reducible refine s_abs ?_) | (with_reducible refine s_max ?_) | (with_reducible refine s_min ?_) | (with_reducible refine s_gcd ?_)
  | (with_reducible refine s_chain ?_) | (with_reducible refine s_sl ?_) | (with_reducible refine s_noP ?_) | (with_reducible refine s_part ?_) | (with_reducible refine s_exI ?_) 
  | ((with_reducible refine' s_mulI ?hc ?_); (case hc => first | exact Or.inl (Or.inr ⟨by decide, by decide⟩) | exact Or.inl (Or.inl ⟨by decide, by decide⟩) | exact Or.inl (Or.inl ⟨by omega, by omega⟩) | exact Or.inl (Or.inr ⟨by omega, by omega⟩) | walk_at "umul"))
  | ((with_reducible refine' s_ixT ?hc ?hd ?_); (case hc => assumption); (case hd => rfl))
  | ((with_reducible refine' s_lenL ?hc ?_); (case hc => first | assumption | exact SqL.of (by assumption))) | ((with_reducible refine' s_lenT ?hc ?_); (case hc => first | assumption | exact SqT.of (by assumption)))
  | ((with_reducible refine' s_divP ?hc ?hd ?_); (case hc => first | decide | assumption | omega); (case hd => first | decide +kernel | assumption)))
local macro_rules | `(tactic| walk_at "us") => `(tactic| repeat walk_at "us2")
local macro_rules | `(tactic| walk_at "uj") => `(tactic| ((walk_at "us"); with_reducible refine s_J ?_))
local macro_rules | `(tactic| walk_at "ua") => `(tactic| ((walk_at "us"); repeat ((first | (refine s_iF ?_) | (refine s_iT ?_)); (walk_at "us"))))
local macro_rules | `(tactic| walk_at "ub") => `(tactic| walk_at "ua")
local macro_rules | `(tactic| walk_at "umul") => `(tactic| exact Or.inr (mulB (by assumption) (by assumption)))
section
variable {P : Program} {w : World} {K : PySem.W.Frag} {mg : Str → Option Value} {base : Heap}
variable {cE cB cN : Addr}
theorem ok_l_text_of (T : Tp P K mg cE cB cN)
    {f : Addr} {fd : FuncData} {dvs : List V} (F : FunD K "_law_text_of" "_law_text_of" (defArgs s_l_text_of) (defBody s_l_text_of) (defScope s_l_text_of) dvs [] f fd) : FnG P w K mg base 1 f fd P_l_text_of (spTextOf K) := by
  refine fng F sc_l_text_of (by walk_at "ulen") (fun cdv A outer s H vs Q E hr0 hg0 h => ?_)
  have hr : Rm 0 (A.deeper (envOfC "_law_text_of" (defScope s_l_text_of) s.heap.objs.size f cdv)) := ⟨hr0, hg0⟩
  have nd : N_l_text_of.Nodup := sc_l_text_of.nd
  obtain ⟨v, n, d, rfl, ⟨p, rfl, hp⟩, L, k⟩ := h
  refine ⟨_, (pss_cons (ps_if (pt_cmpR (op_uEq hr.r.units) (pe_ix ix_seq (pv 0) pe_int (fun _ _ => rfl)) pe_int (nomark _)) (pss_one (ps_ret (pe_callTy call_uStr (by rfl) T.str b_str (pa_cons (pe_ix ix_seq (pv 0) pe_int (fun _ _ => rfl)) pa_nil)))) pss_nil)
    (pss_one (ps_ret (pe_op op_uAdd (pe_op op_uAdd (pe_callTy call_uStr (by rfl) T.str b_str (pa_cons (pe_ix ix_seq (pv 0) pe_int (fun _ _ => rfl)) pa_nil)) pe_str) (pe_callTy call_uStr (by rfl) T.str b_str (pa_cons (pe_ix ix_seq (pv 0) pe_int (fun _ _ => rfl)) pa_nil)))))), ?_⟩
  walk_at "uk"
  walk_at "us"
  have l1 := big_len L.bn
  have l2 := big_len L.bd
  have sl : (("/" : Str)).length = 1 := rfl
  unfold textOf at k
  refine s_ite (fun e => ?_) (fun e => ?_)
  · walk_at "us"
    rw [if_pos e] at k
    refine s_strI (log_big L.bn) ?_
    exact k (by omega)
  · walk_at "us"
    rw [if_neg e] at k
    refine s_strI (log_big L.bn) ?_
    walk_at "us"
    refine s_addS (by show _ ≤ 16777216; omega) ?_
    walk_at "us"
    refine s_strI (log_big L.bd) ?_
    walk_at "us"
    refine s_addS (by rw [app_len]; show _ ≤ 16777216; omega) ?_
    exact k (by rw [app_len, app_len]; omega)
end
end Lw

set_option Elab.async false
set_option linter.all false
set_option maxRecDepth 100000
set_option maxHeartbeats 4000000
namespace Lw
open PySem PySem.Spec L2 Uv
open PyProof.Rows hiding St
local macro_rules | `(tactic| walk_at "umul") => `(tactic| fail)
local macro_rules | `(tactic| walk_at "us1") => `(tactic| first
  | (with_reducible refine s_seq ?_) | (with_reducible refine s_asg ?_) | (with_reducible refine s_gn ?_) | (with_reducible refine s_ret ?_) | (with_reducible refine s_drop ?_) | (with_reducible refine s_if ?_) | (with_reducible refine s_next ?_)
  | (with_reducible refine s_brk ?_) | (with_reducible refine s_cont ?_)
  | ((with_reducible refine' s_var ?hv ?_); (case hv => exact rfl)) | (with_reducible refine s_c ?_) | (with_reducible refine s_op ?_) | (with_reducible refine s_un ?_) | (with_reducible refine s_cb ?_) | (with_reducible refine s_call ?_)
  | (with_reducible refine s_cons ?_) | (with_reducible refine s_nil ?_) | (with_reducible refine s_test ?_) | (with_reducible refine s_tB ?_) | (with_reducible refine s_not ?_) | (with_reducible refine s_and ?_) | (with_reducible refine s_or ?_)
  | (with_reducible refine s_andV ?_) | (with_reducible refine s_orV ?_) | (with_reducible refine s_notV ?_) | (with_reducible refine s_ifE ?_) | (with_reducible refine s_bl ?_) | (with_reducible refine s_iT ?_) | (with_reducible refine s_iF ?_)
  | (with_reducible refine s_I0 ?_) | (with_reducible refine s_U ?_) | (with_reducible refine s_addI ?_) | (with_reducible refine s_eqI ?_) | (with_reducible refine s_eqS ?_) | (with_reducible refine s_eqB ?_) | (with_reducible refine s_neI ?_) | (with_reducible refine s_neS ?_) | (with_reducible refine s_neB ?_)
  | (with_reducible refine s_tupE ?_) | (with_reducible refine s_lstE ?_))
local macro_rules | `(tactic| walk_at "us") => `(tactic| repeat walk_at "us1")
local macro_rules | `(tactic| walk_at "ulen") => `(tactic| (intro vs H Q E h; repeat' (first | (obtain ⟨e, _⟩ := h; subst e; rfl) | (subst h; rfl) | (refine Or.elim h (fun h => ?_) (fun h => ?_)) | (obtain ⟨_, h⟩ := h))))
local macro_rules | `(tactic| walk_at "uk") => `(tactic| (try dsimp only [cxOf, Cx.suite, Cx.tr]))
local macro_rules | `(tactic| walk_at "us2") => `(tactic| first
  | walk_at "us1" | (with_reducible refine s_dput ?_) | ((with_reducible refine' s_mod ?hc ?_); (case hc => first | decide | assumption | omega))
  | (with_reducible refine s_for ?_) | (with_reducible refine s_lc ?_) | (with_reducible refine s_itl ?_) | (with_reducible refine s_itt ?_) | (with_reducible refine s_its ?_) | (with_reducible refine s_itr ?_) | (with_reducible refine s_itr2 ?_) | (with_reducible refine s_disp ?_) | (with_reducible refine s_prn ?_) | (with_reducible refine s_prc ?_) | (with_reducible refine s_m1 ?_) | (with_reducible refine s_isS ?_) | (with_reducible refine s_um1 ?_) | (with_reducible refine s_isB ?_) | (with_reducible refine s_isn ?_) | (with_reducible refine s_notn ?_) | (with_reducible refine s_jd ?_) | (with_reducible refine s_jn ?_) | (with_reducible refine s_jc ?_) | (with_reducible refine s_fmt ?_) | (with_reducible refine s_gc ?_) | (with_reducible refine s_gnil ?_) | (with_reducible refine s_yes ?_) | (with_reducible refine s_raise ?_)
  | ((with_reducible refine' s_pow ?hc ?_); (case hc => exact ⟨by decide, by decide, by decide⟩)) | (with_reducible refine s_int ?_) | (with_reducible refine s_intB ?_) | (with_reducible refine s_strS ?_) | (with_reducible refine s_abs ?_) | (with_reducible refine s_max ?_) | (with_reducible refine s_min ?_) | (with_reducible refine s_gcd ?_)
  | (with_reducible refine s_chain ?_) | (with_reducible refine s_sl ?_) | (with_reducible refine s_noP ?_) | (with_reducible refine s_part ?_) | (with_reducible refine s_exI ?_) 
  | ((with_reducible refine' s_mulI ?hc ?_); (case hc => first | exact Or.inl (Or.inr ⟨by decide, by decide⟩) | exact Or.inl (Or.inl ⟨by decide, by decide⟩) | exact Or.inl (Or.inl ⟨by omega, by omega⟩) | exact Or.inl (Or.inr ⟨by omega, by omega⟩) | walk_at "umul"))
  | ((with_reducible refine' s_ixT ?hc ?hd ?_); (case hc => assumption); (case hd => rfl))
  | ((with_reducible refine' s_lenL ?hc ?_); (case hc => first | assumption | exact SqL.of (by assumption))) | ((with_reducible refine' s_lenT ?hc ?_); (case hc => first | assumption | exact SqT.of (by assumption)))
  | ((with_reducible refine' s_divP ?hc ?hd ?_); (case hc => first | decide | assumption | omega); (case hd => first | decide +kernel | assumption)))
local macro_rules | `(tactic| walk_at "us") => `(tactic| repeat walk_at "us2")
local macro_rules | `(tactic| walk_at "uj") => `(tactic| ((walk_at "us"); with_reducible refine s_J ?_))
local macro_rules | `(tactic| walk_at "ua") => `(tactic| ((walk_at "us"); repeat ((first | (refine s_iF ?_) | (refine s_iT ?_)); (walk_at "us"))))
local macro_rules | `(tactic| walk_at "ub") => `(tactic| walk_at "ua")
local macro_rules | `(tactic| walk_at "umul") => `(tactic| exact Or.inr (mulB (by assumption) (by assumption)))
section
variable {P : Program} {w : World} {K : PySem.W.Frag} {mg : Str → Option Value} {base : Heap}
variable {cE cB cN : Addr}
theorem ok_l_figures (T : Tp P K mg cE cB cN)
    {f : Addr} {fd : FuncData} {dvs : List V} (F : FunD K "_law_figures" "_law_figures" (defArgs s_l_figures) (defBody s_l_figures) (defScope s_l_figures) dvs [] f fd) : FnG P w K mg base 1 f fd P_l_figures (spFig) := by
  refine fng F sc_l_figures (by walk_at "ulen") (fun cdv A outer s H vs Q E hr0 hg0 h => ?_)
  have hr : Rm 0 (A.deeper (envOfC "_law_figures" (defScope s_l_figures) s.heap.objs.size f cdv)) := ⟨hr0, hg0⟩
  have nd : N_l_figures.Nodup := sc_l_figures.nd
  have po : PassesOwn (model P w) (cxOf (L2.CX P w) P w K mg base N_l_figures "_law_figures" (defScope s_l_figures) f cdv A outer s H E).A (cxOf (L2.CX P w) P w K mg base N_l_figures "_law_figures" (defScope s_l_figures) f cdv A outer s H E).env (cxOf (L2.CX P w) P w K mg base N_l_figures "_law_figures" (defScope s_l_figures) f cdv A outer s H E).xe := passes_of rfl
  obtain ⟨z, rfl, hz, k⟩ := h
  refine ⟨_, (pss_consJ (ps_if (PW.pt (pw_or (pt_cmpR (op_uEq hr.r.units) (pv 0) pe_str (nomark _)) (pw_or1 (pt_cmpR op_gt (pe_callB call_uLen (by rfl) T.len b_len (pa_cons (pv 0) pa_nil)) pe_int (nomark _))))) (pss_one (ps_ret pe_bl)) pss_nil)
    (pss_cons (ps_for po rfl (pi_str (pv 0)) (pg_name (i := 1) nd rfl (Or.inl rfl))
    (pss_one (ps_if (pt_cmpR op_uNotIn (pv 1) pe_str rfl) (pss_one (ps_ret pe_bl)) pss_nil)))
    (pss_one (ps_ret (pe_or (pe_cmpR (op_uEq hr.r.units) (pv 0) pe_str (nomark _)) (pe_one (pe_cmpR (op_uNe hr.r.units) (pe_ix ix_seq (pv 0) pe_int (fun _ _ => rfl)) pe_str (nomark _)))))))), ?_⟩
  walk_at "uk"
  have zl : z.length ≤ sizeLine := by show _ ≤ 16777216; omega
  walk_at "uj"
  refine s_seqJ (fun σ' H' => H = H' ∧ 1 ≤ z.length ∧ z.length ≤ 400 ∧ σ' = L2.start N_l_figures [V.str z]) ?_ (fun R hR => ?_)
  · rintro σ' _ ⟨rfl, h1, h2, rfl⟩
    walk_at "us"
    refine loopS (fun i σ' H' => H = H' ∧ (∀ j c, j < i → z.cps[j]? = some c → c ∈ ("0123456789" : Str).cps.toList) ∧ ∃ oc, σ' = (L2.start N_l_figures [.str z]).set 1 oc) ⟨rfl, fun j c h => by omega, none, rfl⟩ ?_ ?_
    · rintro σ' _ ⟨rfl, hall, oc, rfl⟩
      have fy := fig_yes h1 h2 hall
      walk_at "us"
      refine s_itB (fun z1 => ?_) (fun z1 => ?_)
      · walk_at "us"
        rw [fy, z1, Bool.true_or] at k
        exact k
      · walk_at "us"
        obtain ⟨c, hc, ha⟩ := first_sign h1
        refine s_ixS zl ha ?_
        walk_at "us"
        rw [fy, z1, Bool.false_or, hc, show decide (some c = some 48) = decide (c = 48) from decide_eq_decide.mpr (by simp)] at k
        rw [sign_eq]
        exact k
    · rintro i c σ' _ hc ⟨rfl, hall, oc, rfl⟩
      walk_at "us"
      refine s_inS ?_
      walk_at "us"
      by_cases hm : c ∈ ("0123456789" : Str).cps.toList
      · rw [decide_eq_true hm]
        walk_at "ua"
        refine ⟨rfl, fun j c' hj hc' => ?_, _, rfl⟩
        by_cases e : j = i
        · subst e
          rw [hc] at hc'; cases hc'
          exact hm
        · exact hall j c' (by omega) hc'
      · rw [decide_eq_false hm]
        walk_at "ua"
        rw [fig_no hc hm] at k
        exact k
  walk_at "us"
  refine s_itB (fun z1 => ?_) (fun z1 => ?_)
  · walk_at "ua"
    have : z.length = 0 := by rw [of_decide_eq_true z1]; rfl
    rw [fig_len (by omega)] at k
    exact k
  · walk_at "us"
    refine s_lenS zl ?_
    walk_at "us"
    refine s_itB (fun z2 => ?_) (fun z2 => ?_)
    · walk_at "us"
      rw [fig_len (by simp at z2; omega)] at k
      exact k
    · walk_at "us"
      have ne : z.length ≠ 0 := fun e => (of_decide_eq_false z1) (Str.ext' (Array.eq_empty_of_size_eq_zero e))
      exact hR _ _ ⟨rfl, by omega, by simp at z2; omega, rfl⟩
end
end Lw

set_option Elab.async false
set_option linter.all false
set_option maxRecDepth 100000
set_option maxHeartbeats 4000000
namespace Lw
open PySem PySem.Spec L2 Uv
open PyProof.Rows hiding St
local macro_rules | `(tactic| walk_at "umul") => `(tactic| fail)
local macro_rules | `(tactic| walk_at "us1") => `(tactic| first
  | (with_reducible refine s_seq ?_) | (with_reducible refine s_asg ?_) | (with_reducible refine s_gn ?_) | (with_reducible refine s_ret ?_) | (with_reducible refine s_drop ?_) | (with_reducible refine s_if ?_) | (with_reducible refine s_next ?_)
  | (with_reducible refine s_brk ?_) | (with_reducible refine s_cont ?_)
  | ((with_reducible refine' s_var ?hv ?_); (case hv => exact rfl)) | (with_reducible refine s_c ?_) | (with_reducible refine s_op ?_) | (with_reducible refine s_un ?_) | (with_reducible refine s_cb ?_) | (with_reducible refine s_call ?_)
  | (with_reducible refine s_cons ?_) | (with_reducible refine s_nil ?_) | (with_reducible refine s_test ?_) | (with_reducible refine s_tB ?_) | (with_reducible refine s_not ?_) | (with_reducible refine s_and ?_) | (with_reducible refine s_or ?_)
  | (with_reducible refine s_andV ?_) | (with_reducible refine s_orV ?_) | (with_reducible refine s_notV ?_) | (with_reducible refine s_ifE ?_) | (with_reducible refine s_bl ?_) | (with_reducible refine s_iT ?_) | (with_reducible refine s_iF ?_)
  | (with_reducible refine s_I0 ?_) | (with_reducible refine s_U ?_) | (with_reducible refine s_addI ?_) | (with_reducible refine s_eqI ?_) | (with_reducible refine s_eqS ?_) | (with_reducible refine s_eqB ?_) | (with_reducible refine s_neI ?_) | (with_reducible refine s_neS ?_) | (with_reducible refine s_neB ?_)
  | (with_reducible refine s_tupE ?_) | (with_reducible refine s_lstE ?_))
local macro_rules | `(tactic| walk_at "us") => `(tactic| repeat walk_at "us1")
local macro_rules | `(tactic| walk_at "ulen") => `(tactic| (intro vs H Q E h; repeat' (first | (obtain ⟨e, _⟩ := h; subst e; rfl) | (subst h; rfl) | (refine Or.elim h (fun h => ?_) (fun h => ?_)) | (obtain ⟨_, h⟩ := h))))
local macro_rules | `(tactic| walk_at "uk") => `(tactic| (try dsimp only [cxOf, Cx.suite, Cx.tr]))
local macro_rules | `(tactic| walk_at "us2") => `(tactic| first
  | walk_at "us1" | (with_reducible refine s_dput ?_) | ((with_reducible refine' s_mod ?hc ?_); (case hc => first | decide | assumption | omega))
  | (with_reducible refine s_for ?_) | (with_reducible refine s_lc ?_) | (with_reducible refine s_itl ?_) | (with_reducible refine s_itt ?_) | (with_reducible refine s_its ?_) | (with_reducible refine s_itr ?_) | (with_reducible refine s_itr2 ?_) | (with_reducible refine s_disp ?_) | (with_reducible refine s_prn ?_) | (with_reducible refine s_prc ?_) | (with_reducible refine s_m1 ?_) | (with_reducible refine s_isS ?_) | (with_reducible refine s_um1 ?_) | (with_reducible refine s_isB ?_) | (with_reducible refine s_isn ?_) | (with_reducible refine s_notn ?_) | (with_reducible refine s_jd ?_) | (with_reducible refine s_jn ?_) | (with_reducible refine s_jc ?_) | (with_reducible refine s_fmt ?_) | (with_reducible refine s_gc ?_) | (with_reducible refine s_gnil ?_) | (with_reducible refine s_yes ?_) | (with_reducible refine s_raise ?_)
  | ((with_reducible refine' s_pow ?hc ?_); (case hc => exact ⟨by decide, by decide, by decide⟩)) | (with_reducible refine s_int ?_) | (with_reducible refine s_intB ?_) | (with_reducible refine s_strS ?_) | (with_reducible refine s_abs ?_) | (with_reducible refine s_max ?_) | (with_reducible refine s_min ?_) | (with_reducible refine s_gcd ?_)
  | (with_reducible refine s_chain ?_) | (with_reducible refine s_sl ?_) | (with_reducible refine s_noP ?_) | (with_reducible refine s_part ?_) | (with_reducible refine s_exI ?_) 
  | ((with_reducible refine' s_mulI ?hc ?_); (case hc => first | exact Or.inl (Or.inr ⟨by decide, by decide⟩) | exact Or.inl (Or.inl ⟨by decide, by decide⟩) | exact Or.inl (Or.inl ⟨by omega, by omega⟩) | exact Or.inl (Or.inr ⟨by omega, by omega⟩) | walk_at "umul"))
  | ((with_reducible refine' s_ixT ?hc ?hd ?_); (case hc => assumption); (case hd => rfl))
  | ((with_reducible refine' s_lenL ?hc ?_); (case hc => first | assumption | exact SqL.of (by assumption))) | ((with_reducible refine' s_lenT ?hc ?_); (case hc => first | assumption | exact SqT.of (by assumption)))
  | ((with_reducible refine' s_divP ?hc ?hd ?_); (case hc => first | decide | assumption | omega); (case hd => first | decide +kernel | assumption)))
local macro_rules | `(tactic| walk_at "us") => `(tactic| repeat walk_at "us2")
local macro_rules | `(tactic| walk_at "uj") => `(tactic| ((walk_at "us"); with_reducible refine s_J ?_))
local macro_rules | `(tactic| walk_at "ua") => `(tactic| ((walk_at "us"); repeat ((first | (refine s_iF ?_) | (refine s_iT ?_)); (walk_at "us"))))
local macro_rules | `(tactic| walk_at "ub") => `(tactic| walk_at "ua")
local macro_rules | `(tactic| walk_at "ux1") => `(tactic| first
  | walk_at "us2" | ((with_reducible refine' s_ixL ?hc ?hd ?_); (case hc => first | assumption | exact SqL.of (by assumption)); (case hd => rfl)) | ((with_reducible refine' s_ixT ?hc ?hd ?_); (case hc => exact SqT.of (by assumption)); (case hd => rfl))
  | ((with_reducible refine' s_intS ?hc ?hd ?_); (case hc => assumption); (case hd => assumption)) | ((with_reducible refine' s_lenS ?hc ?_); (case hc => assumption)))
local macro_rules | `(tactic| walk_at "ux") => `(tactic| repeat walk_at "ux1")
local macro_rules | `(tactic| walk_at "uy") => `(tactic| ((walk_at "ux"); repeat ((first | (refine s_iF ?_) | (refine s_iT ?_)); (walk_at "ux"))))
local macro_rules | `(tactic| walk_at "umul") => `(tactic| exact Or.inr (mulB (by assumption) (by assumption)))
theorem first_cut : ∀ l : List Nat, 47 ∈ l → ∃ p q, l = p ++ 47 :: q ∧ 47 ∉ p
  | [], h => by cases h
  | c :: r, h => by
    by_cases e : c = 47
    · exact ⟨[], r, by rw [e]; rfl, by simp⟩
    · have : 47 ∈ r := by
        rcases List.mem_cons.mp h with h | h
        · exact absurd h.symm e
        · exact h
      obtain ⟨p, q, e1, e2⟩ := first_cut r this
      refine ⟨c :: p, q, by rw [e1]; rfl, ?_⟩
      intro hm
      rcases List.mem_cons.mp hm with h | h
      · exact e h.symm
      · exact e2 h
theorem starts_cut (z : Str) : Txt.startswith z "-" = decide (cutS z none (some 1) = "-") := by
  obtain ⟨⟨l⟩⟩ := z
  cases l with
  | nil => decide +kernel
  | cons c r =>
    have h1 : cutS ⟨⟨c :: r⟩⟩ none (some 1) = ⟨#[c]⟩ := by
      refine TL.ext_tl ?_
      show ((((c :: r).drop (HT.sIx (r.length + 1) 0 none)).take (HT.sIx (r.length + 1) (r.length + 1) (some 1) - HT.sIx (r.length + 1) 0 none)).toArray).toList = [c]
      rw [HT.sIx_none, show HT.sIx (r.length + 1) (r.length + 1) (some 1) = min 1 (r.length + 1) from HT.sIx_nat _ _ 1, show min 1 (r.length + 1) = 1 from Nat.min_eq_left (by omega)]
      rfl
    rw [h1]
    have h2 : Txt.startswith ⟨⟨c :: r⟩⟩ "-" = (#[c] == #[45]) := by
      show (decide (0 + 1 ≤ (⟨c :: r⟩ : Array Nat).size) && ((⟨c :: r⟩ : Array Nat).extract 0 (0 + 1) == #[45])) = _
      have : (⟨c :: r⟩ : Array Nat).extract 0 (0 + 1) = #[c] := by
        apply Array.toList_inj.mp
        simp
      rw [this]
      simp
    rw [h2]
    have : ((⟨#[c]⟩ : Str) = "-") ↔ c = 45 := by
      constructor
      · intro h
        have h2 : (#[c] : Array Nat) = #[45] := congrArg Str.cps h
        exact (Array.mk.inj h2) |> fun q => (List.cons.inj q).1
      · rintro rfl; rfl
    by_cases e : c = 45
    · rw [decide_eq_true (this.mpr e), e]; rfl
    · rw [decide_eq_false (fun q => e (this.mp q))]; simp [e]
theorem fold_ge : ∀ (l : List Nat) (acc : Nat), acc ≤ l.foldl (fun acc c => acc * 10 + (c - 48)) acc
  | [], acc => Nat.le_refl _
  | c :: r, acc => by
    rw [List.foldl_cons]
    exact Nat.le_trans (by omega) (fold_ge r _)
theorem ival_fig {z : Str} (h : fig z = true) : ival z = ((NumText.digitsVal z.cps.toList : Nat) : Int) := by
  obtain ⟨h1, h2, h3⟩ := fig_parts h
  have e := PySem.intText_digits h3 (fun q => by
    have : z.cps.toList.length = z.length := Array.length_toList
    rw [q] at this
    simp at this; omega) (by omega)
  unfold ival; rw [e]; rfl
theorem fig_small {z : Str} (h : fig z = true) : (ival z = 0 ↔ z = "0") ∧ (ival z < 2 ↔ (z = "0" ∨ z = "1")) := by
  have e := ival_fig h
  obtain ⟨h1, h2, h3⟩ := fig_parts h
  have e0 : (("0" : Str)).cps.toList = [48] := rfl
  have e1 : (("1" : Str)).cps.toList = [49] := rfl
  have ext : ∀ y : Str, z = y ↔ z.cps.toList = y.cps.toList := fun y => ⟨fun q => by rw [q], fun q => TL.ext_tl q⟩
  rw [ext, ext, e0, e1, e]
  have hf : z.cps.toList = [48] ∨ ¬ z.cps.toList.head? = some 48 := by
    unfold fig at h
    simp only [Bool.and_eq_true, Bool.or_eq_true, decide_eq_true_eq, Bool.not_eq_true', decide_eq_false_iff_not] at h
    rcases h.2 with h | h
    · left; rw [h]; rfl
    · right
      rw [List.head?_eq_getElem?, Array.getElem?_toList]
      exact h
  have hl : z.cps.toList.length = z.length := Array.length_toList
  unfold NumText.digitsVal
  match hz : z.cps.toList with
  | [] => rw [hz] at hl; simp at hl; omega
  | [c] =>
    have hc := h3 c (by rw [hz]; simp)
    show ((((0 * 10 + (c - 48) : Nat) : Int) = 0) ↔ [c] = [48]) ∧ (((0 * 10 + (c - 48) : Nat) : Int) < 2 ↔ ([c] = [48] ∨ [c] = [49]))
    simp only [List.cons.injEq, and_true]
    omega
  | c :: c2 :: r =>
    have hc := h3 c (by rw [hz]; simp)
    have n48 : c ≠ 48 := fun q => by
      rcases hf with w | w
      · rw [hz] at w; cases w
      · exact w (by rw [hz, q]; rfl)
    have g := fold_ge r ((0 * 10 + (c - 48)) * 10 + (c2 - 48))
    rw [List.foldl_cons, List.foldl_cons]
    generalize List.foldl (fun acc c => acc * 10 + (c - 48)) ((0 * 10 + (c - 48)) * 10 + (c2 - 48)) r = g0 at g
    constructor
    · constructor
      · intro q; omega
      · intro q; cases q
    · constructor
      · intro q; omega
      · rintro (q | q) <;> cases q
theorem fig_no47 {z : Str} (h : 47 ∈ z.cps.toList) : fig z = false := by
  cases q : fig z with
  | false => rfl
  | true =>
    have := (fig_parts q).2.2 47 h
    omega
theorem slash : (("/" : Str)).cps.toList = [47] := rfl
/-- the text's two cuts at its strokes -/
theorem cuts (r : Str) : (Txt.partition r "/" = (r, Str.empty, Str.empty) ∧ Txt.split r "/" = [r]) ∨ (∃ a b : Str, Txt.partition r "/" = (a, (("/" : Str), b)) ∧ Txt.split r "/" = [a, b]) ∨ (∃ a b : Str, Txt.partition r "/" = (a, (("/" : Str), b)) ∧ fig b = false ∧ 2 < (Txt.split r "/").length) := by
  have sp : ∀ x : Str, (Txt.split x "/").map TL.tl = TL.spl [47] 0 [] (TL.tl x) := fun x => TL.split_spl x "/" (by decide) (TL.kind_ok (by decide +kernel))
  by_cases h : 47 ∈ TL.tl r
  · obtain ⟨p, q, e, hp⟩ := first_cut _ h
    have er : r = (⟨p.toArray⟩ : Str) ++ "/" ++ ⟨q.toArray⟩ := TL.ext_tl (by
      rw [TL.tl_append, TL.tl_append, e]
      show p ++ 47 :: q = p ++ [47] ++ q
      simp)
    have hpa : Txt.partition r "/" = ((⟨p.toArray⟩ : Str), (("/" : Str), (⟨q.toArray⟩ : Str))) := by
      conv => lhs; rw [er]
      exact TL.partition_app (y := "/") (s := 47) (S := []) rfl (by exact hp)
    have s1 := sp r
    rw [e, show p ++ 47 :: q = p ++ ([47] ++ q) from rfl, TL.spl_part1 hp, List.nil_append] at s1
    right
    by_cases h2 : 47 ∈ q
    · right
      refine ⟨_, _, hpa, fig_no47 h2, ?_⟩
      obtain ⟨p2, q2, e2, hp2⟩ := first_cut _ h2
      rw [e2, show p2 ++ 47 :: q2 = p2 ++ ([47] ++ q2) from rfl, TL.spl_part1 hp2] at s1
      have s3 := sp ⟨q2.toArray⟩
      have l3 := split_pos (⟨q2.toArray⟩ : Str) "/"
      have l1 := congrArg List.length s1
      have l2 := congrArg List.length s3
      rw [List.length_map] at l1 l2
      rw [List.length_cons, List.length_cons] at l1
      have e3 : TL.tl (⟨q2.toArray⟩ : Str) = q2 := rfl
      rw [e3] at l2
      omega
    · left
      refine ⟨_, _, hpa, ?_⟩
      rw [TL.spl_last1 h2, List.nil_append] at s1
      exact TL.map_tl_inj s1
  · left
    refine ⟨TL.partition_none (y := "/") (s := 47) (S := []) rfl h, ?_⟩
    have s1 := sp r
    rw [TL.spl_last1 h, List.nil_append] at s1
    exact TL.map_tl_inj s1
theorem readA {r : Str} {s : Int} (h : Txt.partition r "/" = (r, Str.empty, Str.empty)) : readG s r = if fig r = true ∧ ¬ (s < 0 ∧ ival r = 0) then some (s * ival r, 1) else none := by
  unfold readG
  rw [h]
  dsimp only
  cases hf : fig r with
  | false => simp
  | true =>
    have hz := (fig_small hf).1
    rw [if_pos (show (Str.empty : Str) = "" from rfl)]
    by_cases e1 : s < 0 ∧ r = "0"
    · rw [if_pos (by simp [e1]), if_neg (fun q => q.2 ⟨e1.1, hz.mpr e1.2⟩)]
    · rw [if_neg (by simpa using e1), if_pos ⟨rfl, fun q => e1 ⟨q.1, hz.mp q.2⟩⟩]
theorem readB {r a c : Str} {s : Int} (h : Txt.partition r "/" = (a, (("/" : Str), c))) : readG s r = if fig a = true ∧ fig c = true ∧ ¬ (s < 0 ∧ ival a = 0) ∧ ¬ ival c < 2 ∧ Int.gcd (s * ival a) (ival c) = 1 then some (s * ival a, ival c) else none := by
  unfold readG
  rw [h]
  dsimp only
  rw [if_neg (show ¬ (("/" : Str) = "") by decide +kernel)]
  cases hf : fig a with
  | false => simp
  | true =>
    have hz := (fig_small hf).1
    cases hc : fig c with
    | false => simp
    | true =>
      have hy := (fig_small hc).2
      by_cases e1 : s < 0 ∧ a = "0"
      · rw [if_pos (by simp [e1]), if_neg (fun q => q.2.2.1 ⟨e1.1, hz.mpr e1.2⟩)]
      · have n1 : ¬ (s < 0 ∧ ival a = 0) := fun q => e1 ⟨q.1, hz.mp q.2⟩
        rw [if_neg (by simpa using e1)]
        by_cases e2 : c = "0" ∨ c = "1"
        · rw [if_pos (by simpa using e2), if_neg (fun q => q.2.2.2.1 (hy.mpr e2))]
        · rw [if_neg (by simpa using e2)]
          have n2 : ¬ ival c < 2 := fun q => e2 (hy.mp q)
          by_cases e3 : Int.gcd (s * ival a) (ival c) = 1
          · rw [if_pos e3, if_pos ⟨rfl, rfl, n1, n2, e3⟩]
          · rw [if_neg e3, if_neg (fun q => e3 q.2.2.2.2)]
section
variable {P : Program} {w : World} {K : PySem.W.Frag} {mg : Str → Option Value} {base : Heap}
variable {cE cB cN : Addr}
theorem ok_l_value_of (T : Tp P K mg cE cB cN)
    (c_l_figures : Cal P w K mg base 1 "_law_figures" P_l_figures [] (spFig))
    (c_l_gcd : Cal P w K mg base 1 "_law_gcd" P_l_gcd [] (spGcd))
    {f : Addr} {fd : FuncData} {dvs : List V} (F : FunD K "_law_value_of" "_law_value_of" (defArgs s_l_value_of) (defBody s_l_value_of) (defScope s_l_value_of) dvs [] f fd) : FnG P w K mg base 2 f fd P_l_value_of (spValueOf) := by
  refine fng F sc_l_value_of (by walk_at "ulen") (fun cdv A outer s H vs Q E hr0 hg0 h => ?_)
  have hr : Rm 1 (A.deeper (envOfC "_law_value_of" (defScope s_l_value_of) s.heap.objs.size f cdv)) := ⟨hr0, hg0⟩
  have nd : N_l_value_of.Nodup := sc_l_value_of.nd
  obtain ⟨z, rfl, hz, kn, ks⟩ := h
  refine ⟨_, (pss_cons (ps_set (i := 1) nd rfl (Or.inl rfl) (pe_cmpR (op_uEq hr.r.units) (pe_slice sl_u (pv 0) po_none (po_some pe_int)) pe_str (nomark _)))
    (pss_consJ (ps_set (i := 2) nd rfl (Or.inl rfl) (pe_m1 PySem.F.slot_str_split PySem.F.type_str_split mt_uSplit (pe_ifExp (pt_val (pv 1)) (pe_slice sl_u (pv 0) (po_some pe_int) po_none) (pv 0)) pe_str))
    (pss_cons (ps_if (PW.pt (pw_or (pt_cmpR op_gt (pe_callB call_uLen (by rfl) T.len b_len (pa_cons (pv 2) pa_nil)) pe_int (nomark _)) (pw_or (pt_not (pt_val (pe_c (E := En) c_l_figures (hr.mono (by decide)) paN (pa_cons (pe_ix ix_seq (pv 2) pe_int (fun _ _ => rfl)) pa_nil)))) (pw_or1 (pt_not (pt_val (pe_c (E := En) c_l_figures (hr.mono (by decide)) paN (pa_cons (pe_ix ix_seq (pv 2) (pe_op op_sub (pe_callB call_uLen (by rfl) T.len b_len (pa_cons (pv 2) pa_nil)) pe_int) (fun _ _ => rfl)) pa_nil)))))))) (pss_one (ps_ret pe_non)) pss_nil)
    (pss_cons (ps_set (i := 3) nd rfl (Or.inl rfl) (pe_callTy call_uInt (by rfl) T.int b_int (pa_cons (pe_ix ix_seq (pv 2) pe_int (fun _ _ => rfl)) pa_nil)))
    (pss_cons (ps_if (PW.pt (pw_and (pt_val (pv 1)) (pw_and1 (pt_cmpR (op_uEq hr.r.units) (pv 3) pe_int (nomark _))))) (pss_one (ps_ret pe_non)) pss_nil)
    (pss_consJ (ps_if (pt_val (pv 1)) (pss_one (ps_set (i := 3) nd rfl (Or.inl rfl) (pe_op op_sub pe_int (pv 3)))) pss_nil)
    (pss_cons (ps_if (pt_cmpR (op_uEq hr.r.units) (pe_callB call_uLen (by rfl) T.len b_len (pa_cons (pv 2) pa_nil)) pe_int (nomark _)) (pss_one (ps_ret (pe_tup (pa_cons (pv 3) (pa_cons pe_int pa_nil))))) pss_nil)
    (pss_cons (ps_set (i := 4) nd rfl (Or.inl rfl) (pe_callTy call_uInt (by rfl) T.int b_int (pa_cons (pe_ix ix_seq (pv 2) pe_int (fun _ _ => rfl)) pa_nil)))
    (pss_cons (ps_if (PW.pt (pw_or (pt_cmpR op_lt (pv 4) pe_int (nomark _)) (pw_or1 (pt_cmpR (op_uNe hr.r.units) (pe_c (E := En) c_l_gcd (hr.mono (by decide)) paN (pa_cons (pv 3) (pa_cons (pv 4) pa_nil))) pe_int (nomark _))))) (pss_one (ps_ret pe_non)) pss_nil)
    (pss_one (ps_ret (pe_tup (pa_cons (pv 3) (pa_cons (pv 4) pa_nil)))))))))))))), ?_⟩
  walk_at "uk"
  have zl : z.length ≤ sizeLine := by show _ ≤ 16777216; omega
  walk_at "us"
  refine s_slS zl ?_
  walk_at "us"
  rw [← starts_cut]
  walk_at "uj"
  refine s_seqJ (fun σ' H' => Ex H H' ∧ ∃ b0 s r p, (b0 = true ∧ s = -1 ∨ b0 = false ∧ s = 1) ∧ r.length ≤ 10000 ∧ readV z = readG s r ∧ H' p = some (.lst ((Txt.split r "/").map V.str)) ∧ σ' = ((L2.start N_l_value_of [V.str z]).set 1 (some (.bl b0))).set 2 (some (.ref p))) ?_ (fun R hR => ?_)
  · rintro σ' H1 ⟨e1, b0, s, r, p, hbs, rl, hv, hp, rfl⟩
    rcases cuts r with ⟨hP, hS⟩ | ⟨a, c, hP, hS⟩ | ⟨a, c, hP, hfc, hS⟩
    · rw [hS] at hp
      change H1 p = some (.lst [V.str r]) at hp
      rw [readA hP] at hv
      walk_at "uy"
      refine ⟨r, rfl, rl, ?_⟩
      cases fa : fig r with
      | false =>
        walk_at "uy"
        exact kn (by rw [hv, if_neg (by rw [fa]; simp)]) _ e1
      | true =>
        obtain ⟨ia, ia0⟩ := fig_int fa
        have la := fig_l fa
        walk_at "uy"
        refine ⟨r, rfl, rl, ?_⟩
        rw [fa]
        walk_at "uy"
        rcases hbs with ⟨rfl, rfl⟩ | ⟨rfl, rfl⟩
        · walk_at "uy"
          refine s_ite (fun h0 => ?_) (fun h0 => ?_)
          · walk_at "us"
            exact kn (by rw [hv, if_neg (fun q => q.2 ⟨by decide, h0⟩)]) _ e1
          · rw [if_pos ⟨fa, fun q => h0 q.2⟩] at hv
            walk_at "uj"
            refine s_seqJ (fun σ' H' => H1 = H' ∧ σ' = (((L2.start N_l_value_of [V.str z]).set 1 (some (.bl true))).set 2 (some (.ref p))).set 3 (some (.int (-1 * ival r)))) ?_ (fun R hR => ?_)
            · rintro σ' _ ⟨rfl, rfl⟩
              walk_at "uy"
              refine s_szN (Nat.le_of_ble_eq_true rfl) fun q hq => ?_
              exact ks _ _ hv q _ (e1.tr (exN hq)) upd_same
            · walk_at "uy"
              exact hR _ _ ⟨rfl, by rw [show 0 - ival r = -1 * ival r by omega]; rfl⟩
        · walk_at "uj"
          rw [if_pos ⟨fa, fun q => absurd q.1 (by decide)⟩] at hv
          refine s_seqJ (fun σ' H' => H1 = H' ∧ σ' = (((L2.start N_l_value_of [V.str z]).set 1 (some (.bl false))).set 2 (some (.ref p))).set 3 (some (.int (1 * ival r)))) ?_ (fun R hR => ?_)
          · rintro σ' _ ⟨rfl, rfl⟩
            walk_at "uy"
            refine s_szN (Nat.le_of_ble_eq_true rfl) fun q hq => ?_
            exact ks _ _ hv q _ (e1.tr (exN hq)) upd_same
          · walk_at "uy"
            exact hR _ _ ⟨rfl, by rw [Int.one_mul]⟩
    · rw [hS] at hp
      change H1 p = some (.lst [V.str a, V.str c]) at hp
      rw [readB hP] at hv
      have pl := fact_partition r "/"
      rw [hP] at pl
      obtain ⟨l1, _, l3⟩ : a.length ≤ r.length ∧ (("/" : Str)).length ≤ r.length ∧ c.length ≤ r.length := pl
      walk_at "uy"
      refine ⟨a, rfl, by omega, ?_⟩
      cases fa : fig a with
      | false =>
        walk_at "uy"
        exact kn (by rw [hv, if_neg (by rw [fa]; simp)]) _ e1
      | true =>
        obtain ⟨ia, ia0⟩ := fig_int fa
        have la := fig_l fa
        walk_at "uy"
        refine ⟨c, rfl, by omega, ?_⟩
        cases fc : fig c with
        | false =>
          walk_at "uy"
          exact kn (by rw [hv, if_neg (by rw [fc]; simp)]) _ e1
        | true =>
          obtain ⟨ic, ic0⟩ := fig_int fc
          have lc := fig_l fc
          have fin : ∀ (b0 : Bool) (s : Int), ¬ (s < 0 ∧ ival a = 0) → readV z = (if fig a = true ∧ fig c = true ∧ ¬ (s < 0 ∧ ival a = 0) ∧ ¬ ival c < 2 ∧ Int.gcd (s * ival a) (ival c) = 1 then some (s * ival a, ival c) else none) →
              (tSeq (tIfS (tTest (tOp (uEq K) (tCB (uLen K) (tCons (tVar 2) tNil)) (tC (V.int 1)))) (tRet (tTup (tCons (tVar 3) (tCons (tC (V.int 1)) tNil)))) tNext)
                (tSeq (tAsg (tCB uInt (tCons (tOp (rIx K) (tVar 2) (tC (V.int 1))) tNil)) (gName 4))
                (tSeq (tIfS (tOr (tTest (tOp (rI0 fun i j => V.bl (decide (i < j))) (tVar 4) (tC (V.int 2)))) (tTest (tOp (uNe K) (uCall spGcd [] En (tCons (tVar 3) (tCons (tVar 4) tNil))) (tC (V.int 1))))) (tRet (tC V.non)) tNext)
                  (tRet (tTup (tCons (tVar 3) (tCons (tVar 4) tNil))))))) { nx := fun x H' => Q V.non H', rt := Q } ((((L2.start N_l_value_of [V.str z]).set 1 (some (.bl b0))).set 2 (some (.ref p))).set 3 (some (.int (s * ival a)))) H1 := by
            intro b0 s ns hv
            walk_at "uy"
            refine s_ite (fun h2 => ?_) (fun h2 => ?_)
            · walk_at "uy"
              exact kn (by rw [hv, if_neg (fun q => q.2.2.2.1 h2)]) _ e1
            · walk_at "uy"
              refine ⟨_, _, rfl, ?_⟩
              walk_at "uy"
              refine s_iteN (fun hg => ?_) (fun hg => ?_)
              · walk_at "uy"
                exact kn (by rw [hv, if_neg (fun q => hg (by have := q.2.2.2.2; omega))]) _ e1
              · rw [if_pos ⟨fa, fc, ns, h2, by omega⟩] at hv
                walk_at "uy"
                refine s_szN (Nat.le_of_ble_eq_true rfl) fun q hq => ?_
                exact ks _ _ hv q _ (e1.tr (exN hq)) upd_same
          walk_at "uy"
          rcases hbs with ⟨rfl, rfl⟩ | ⟨rfl, rfl⟩
          · walk_at "uy"
            refine s_ite (fun h0 => ?_) (fun h0 => ?_)
            · walk_at "us"
              exact kn (by rw [hv, if_neg (fun q => q.2.2.1 ⟨by decide, h0⟩)]) _ e1
            · walk_at "uj"
              refine s_seqJ (fun σ' H' => H1 = H' ∧ σ' = (((L2.start N_l_value_of [V.str z]).set 1 (some (.bl true))).set 2 (some (.ref p))).set 3 (some (.int (-1 * ival a)))) ?_ (fun R hR => ?_)
              · rintro σ' _ ⟨rfl, rfl⟩
                exact fin _ _ (fun q => h0 q.2) hv
              · walk_at "uy"
                exact hR _ _ ⟨rfl, by rw [show 0 - ival a = -1 * ival a by omega]; rfl⟩
          · walk_at "uj"
            refine s_seqJ (fun σ' H' => H1 = H' ∧ σ' = (((L2.start N_l_value_of [V.str z]).set 1 (some (.bl false))).set 2 (some (.ref p))).set 3 (some (.int (1 * ival a)))) ?_ (fun R hR => ?_)
            · rintro σ' _ ⟨rfl, rfl⟩
              exact fin _ _ (fun q => absurd q.1 (by decide)) hv
            · walk_at "uy"
              exact hR _ _ ⟨rfl, by rw [Int.one_mul]⟩
    · rw [readB hP] at hv
      walk_at "uy"
      rw [decide_eq_true (show (2 : Int) < (((Txt.split r "/").map V.str).length : Int) by rw [List.length_map]; omega)]
      walk_at "uy"
      exact kn (by rw [hv, if_neg (by rw [hfc]; simp)]) _ e1
  · walk_at "us"
    refine s_itB (fun q => ?_) (fun q => ?_)
    · walk_at "us"
      refine s_slS zl ?_
      walk_at "us"
      have cl := cutS_length z (some 1) none
      refine s_usplit (b := "/") (by decide +kernel) (by show _ ≤ 16777216; omega) fun p hp => ?_
      walk_at "us"
      exact hR _ _ ⟨exN hp, _, -1, cutS z (some 1) none, p, .inl ⟨q, rfl⟩, by omega, by unfold readV; rw [if_pos q], upd_same, rfl⟩
    · walk_at "us"
      refine s_usplit (b := "/") (by decide +kernel) (by show _ ≤ 16777216; omega) fun p hp => ?_
      walk_at "us"
      exact hR _ _ ⟨exN hp, _, 1, z, p, .inr ⟨q, rfl⟩, hz, by unfold readV; rw [if_neg (by rw [q]; simp)], upd_same, rfl⟩
end
end Lw

set_option Elab.async false
set_option linter.all false
set_option maxRecDepth 100000
set_option maxHeartbeats 4000000
namespace Lw
open PySem PySem.Spec L2 Uv
open PyProof.Rows hiding St
local macro_rules | `(tactic| walk_at "umul") => `(tactic| fail)
local macro_rules | `(tactic| walk_at "us1") => `(tactic| first
  | (with_reducible refine s_seq ?_) | (with_reducible refine s_asg ?_) | (with_reducible refine s_gn ?_) | (with_reducible refine s_ret ?_) | (with_reducible refine s_drop ?_) | (with_reducible refine s_if ?_) | (with_reducible refine s_next ?_)
  | (with_reducible refine s_brk ?_) | (with_reducible refine s_cont ?_)
  | ((with_reducible refine' s_var ?hv ?_); (case hv => exact rfl)) | (with_reducible refine s_c ?_) | (with_reducible refine s_op ?_) | (with_reducible refine s_un ?_) | (with_reducible refine s_cb ?_) | (with_reducible refine s_call ?_)
  | (with_reducible refine s_cons ?_) | (with_reducible refine s_nil ?_) | (with_reducible refine s_test ?_) | (with_reducible refine s_tB ?_) | (with_reducible refine s_not ?_) | (with_reducible refine s_and ?_) | (with_reducible refine s_or ?_)
  | (with_reducible refine s_andV ?_) | (with_reducible refine s_orV ?_) | (with_reducible refine s_notV ?_) | (with_reducible refine s_ifE ?_) | (with_reducible refine s_bl ?_) | (with_reducible refine s_iT ?_) | (with_reducible refine s_iF ?_)
  | (with_reducible refine s_I0 ?_) | (with_reducible refine s_U ?_) | (with_reducible refine s_addI ?_) | (with_reducible refine s_eqI ?_) | (with_reducible refine s_eqS ?_) | (with_reducible refine s_eqB ?_) | (with_reducible refine s_neI ?_) | (with_reducible refine s_neS ?_) | (with_reducible refine s_neB ?_)
  | (with_reducible refine s_tupE ?_) | (with_reducible refine s_lstE ?_))
local macro_rules | `(tactic| walk_at "us") => `(tactic| repeat walk_at "us1")
local macro_rules | `(tactic| walk_at "ulen") => `(tactic| (intro vs H Q E h; repeat' (first | (obtain ⟨e, _⟩ := h; subst e; rfl) | (subst h; rfl) | (refine Or.elim h (fun h => ?_) (fun h => ?_)) | (obtain ⟨_, h⟩ := h))))
local macro_rules | `(tactic| walk_at "uk") => `(tactic| (try dsimp only [cxOf, Cx.suite, Cx.tr]))
local macro_rules | `(tactic| walk_at "us2") => `(tactic| first
  | walk_at "us1" | (with_reducible refine s_dput ?_) | ((with_reducible refine' s_mod ?hc ?_); (case hc => first | decide | assumption | omega))
  | (with_reducible refine s_for ?_) | (with_reducible refine s_lc ?_) | (with_reducible refine s_itl ?_) | (with_reducible refine s_itt ?_) | (with_reducible refine s_its ?_) | (with_reducible refine s_itr ?_) | (with_reducible refine s_itr2 ?_) | (with_reducible refine s_disp ?_) | (with_reducible refine s_prn ?_) | (with_reducible refine s_prc ?_) | (with_reducible refine s_m1 ?_) | (with_reducible refine s_isS ?_) | (with_reducible refine s_um1 ?_) | (with_reducible refine s_isB ?_) | (with_reducible refine s_isn ?_) | (with_reducible refine s_notn ?_) | (with_reducible refine s_jd ?_) | (with_reducible refine s_jn ?_) | (with_reducible refine s_jc ?_) | (with_reducible refine s_fmt ?_) | (with_reducible refine s_gc ?_) | (with_reducible refine s_gnil ?_) | (with_reducible refine s_yes ?_) | (with_reducible refine s_raise ?_)
  | ((with_reducible refine' s_pow ?hc ?_); (case hc => exact ⟨by decide, by decide, by decide⟩)) | (with_reducible refine s_int ?_) | (with_reducible refine s_intB ?_) | (with_reducible refine s_strS ?_) | (with_reducible refine s_abs ?_) | (with_reducible refine s_max ?_) | (with_reducible refine s_min ?_) | (with_reducible refine s_gcd ?_)
  | (with_reducible refine s_chain ?_) | (with_reducible refine s_sl ?_) | (with_reducible refine s_noP ?_) | (with_reducible refine s_part ?_) | (with_reducible refine s_exI ?_) 
  | ((with_reducible refine' s_mulI ?hc ?_); (case hc => first | exact Or.inl (Or.inr ⟨by decide, by decide⟩) | exact Or.inl (Or.inl ⟨by decide, by decide⟩) | exact Or.inl (Or.inl ⟨by omega, by omega⟩) | exact Or.inl (Or.inr ⟨by omega, by omega⟩) | walk_at "umul"))
  | ((with_reducible refine' s_ixT ?hc ?hd ?_); (case hc => assumption); (case hd => rfl))
  | ((with_reducible refine' s_lenL ?hc ?_); (case hc => first | assumption | exact SqL.of (by assumption))) | ((with_reducible refine' s_lenT ?hc ?_); (case hc => first | assumption | exact SqT.of (by assumption)))
  | ((with_reducible refine' s_divP ?hc ?hd ?_); (case hc => first | decide | assumption | omega); (case hd => first | decide +kernel | assumption)))
local macro_rules | `(tactic| walk_at "us") => `(tactic| repeat walk_at "us2")
local macro_rules | `(tactic| walk_at "uj") => `(tactic| ((walk_at "us"); with_reducible refine s_J ?_))
local macro_rules | `(tactic| walk_at "ua") => `(tactic| ((walk_at "us"); repeat ((first | (refine s_iF ?_) | (refine s_iT ?_)); (walk_at "us"))))
local macro_rules | `(tactic| walk_at "ub") => `(tactic| walk_at "ua")
local macro_rules | `(tactic| walk_at "umul") => `(tactic| exact Or.inr (mulB (by assumption) (by assumption)))
section
variable {P : Program} {w : World} {K : PySem.W.Frag} {mg : Str → Option Value} {base : Heap}
variable {cE cB cN : Addr}
theorem ok_l_right_reading (T : Tp P K mg cE cB cN)
    (c_l_read_told : Cal P w K mg base 3 "_law_read_told" P_l_read_told [] (spReadTold K))
    (c_l_same : Cal P w K mg base 2 "_law_same" P_l_same [] (spSame K))
    (c_l_value_of : Cal P w K mg base 2 "_law_value_of" P_l_value_of [] (spValueOf))
    {f : Addr} {fd : FuncData} {dvs : List V} (F : FunD K "_law_right_reading" "_law_right_reading" (defArgs s_l_right_reading) (defBody s_l_right_reading) (defScope s_l_right_reading) dvs [] f fd) : FnG P w K mg base 4 f fd P_l_right_reading (spRightReading) := by
  refine fng F sc_l_right_reading (by walk_at "ulen") (fun cdv A outer s H vs Q E hr0 hg0 h => ?_)
  have hr : Rm 3 (A.deeper (envOfC "_law_right_reading" (defScope s_l_right_reading) s.heap.objs.size f cdv)) := ⟨hr0, hg0⟩
  have nd : N_l_right_reading.Nodup := sc_l_right_reading.nd
  obtain ⟨z, rfl, hz, k⟩ := h
  refine ⟨_, (pss_cons (ps_set (i := 1) nd rfl (Or.inl rfl) (pe_c (E := En) c_l_value_of (hr.mono (by decide)) paN (pa_cons (pv 0) pa_nil)))
    (pss_cons (ps_set (i := 2) nd rfl (Or.inl rfl) (pe_c (E := En) c_l_read_told (hr.mono (by decide)) paN (pa_cons (pv 0) pa_nil)))
    (pss_cons (ps_if (pt_cmpR op_uIsN (pv 1) pe_non (nomark _)) (pss_one (ps_ret (pe_and (pe_cmpR (op_uEq hr.r.units) (pe_ix ix_seq (pv 2) pe_int (fun _ _ => rfl)) pe_str (nomark _)) (pe_and (pe_callB call_isi (by rfl) T.isinstance b_isinstance (pa_cons (pe_ix ix_seq (pv 2) pe_int (fun _ _ => rfl)) (pa_cons (pe_bltn (v := .ty "str") (by rfl) T.str b_str rfl) pa_nil))) (pe_one (pe_cmpR (op_uEq hr.r.units) (pe_ix ix_seq (pv 2) pe_int (fun _ _ => rfl)) (pv 0) (nomark _))))))) pss_nil)
    (pss_one (ps_ret (pe_and (pe_cmpR (op_uEq hr.r.units) (pe_ix ix_seq (pv 2) pe_int (fun _ _ => rfl)) pe_str (nomark _)) (pe_one (pe_c (E := En) c_l_same (hr.mono (by decide)) paN (pa_cons (pe_ix ix_seq (pv 2) pe_int (fun _ _ => rfl)) (pa_cons (pv 1) pa_nil)))))))))), ?_⟩
  walk_at "uk"
  walk_at "us"
  cases hv : readV z with
  | none =>
    refine ⟨z, rfl, hz, fun _ H1 e1 => ?_, fun n d e => by rw [hv] at e; cases e⟩
    walk_at "us"
    refine ⟨.str z, rfl, .inl ⟨z, rfl, hz, fun n d e => by rw [hv] at e; (cases e), fun _ q H2 e2 hq => ?_⟩⟩
    walk_at "us"
    refine s_ite (fun _ => ?_) (fun w => absurd rfl w)
    walk_at "us"
    refine s_ixT (.of hq) rfl ?_
    walk_at "ua"
    refine s_ixT (.of hq) rfl ?_
    walk_at "ua"
    refine s_isStr (.str z) ?_
    walk_at "ua"
    refine s_ixT (.of hq) rfl ?_
    walk_at "ua"
    rw [decide_eq_true rfl]
    exact k _ (e1.tr e2)
  | some nd =>
    obtain ⟨n, d⟩ := nd
    refine ⟨z, rfl, hz, fun e => by (rw [hv] at e; (cases e)), fun n' d' e p H1 e1 hp => ?_⟩
    rw [hv] at e
    cases e
    walk_at "us"
    refine ⟨.str z, rfl, .inl ⟨z, rfl, hz, fun n' d' e q q' H2 e2 hq' hq => ?_, fun e => by rw [hv] at e; (cases e)⟩⟩
    rw [hv] at e
    cases e
    walk_at "us"
    refine s_ite (fun w => by cases w) (fun _ => ?_)
    walk_at "us"
    refine s_ixT (.of hq) rfl ?_
    walk_at "ua"
    refine s_ixT (.of hq) rfl ?_
    walk_at "ua"
    exact ⟨_, _, n, d, rfl, ⟨q', rfl, .of hq'⟩, ⟨p, rfl, .of (e2 _ _ hp)⟩, k _ (e1.tr e2)⟩
end
end Lw

set_option Elab.async false
set_option linter.all false
set_option maxRecDepth 100000
set_option maxHeartbeats 4000000
namespace Lw
open PySem PySem.Spec L2 Uv
open PyProof.Rows hiding St
local macro_rules | `(tactic| walk_at "umul") => `(tactic| fail)
local macro_rules | `(tactic| walk_at "us1") => `(tactic| first
  | (with_reducible refine s_seq ?_) | (with_reducible refine s_asg ?_) | (with_reducible refine s_gn ?_) | (with_reducible refine s_ret ?_) | (with_reducible refine s_drop ?_) | (with_reducible refine s_if ?_) | (with_reducible refine s_next ?_)
  | (with_reducible refine s_brk ?_) | (with_reducible refine s_cont ?_)
  | ((with_reducible refine' s_var ?hv ?_); (case hv => exact rfl)) | (with_reducible refine s_c ?_) | (with_reducible refine s_op ?_) | (with_reducible refine s_un ?_) | (with_reducible refine s_cb ?_) | (with_reducible refine s_call ?_)
  | (with_reducible refine s_cons ?_) | (with_reducible refine s_nil ?_) | (with_reducible refine s_test ?_) | (with_reducible refine s_tB ?_) | (with_reducible refine s_not ?_) | (with_reducible refine s_and ?_) | (with_reducible refine s_or ?_)
  | (with_reducible refine s_andV ?_) | (with_reducible refine s_orV ?_) | (with_reducible refine s_notV ?_) | (with_reducible refine s_ifE ?_) | (with_reducible refine s_bl ?_) | (with_reducible refine s_iT ?_) | (with_reducible refine s_iF ?_)
  | (with_reducible refine s_I0 ?_) | (with_reducible refine s_U ?_) | (with_reducible refine s_addI ?_) | (with_reducible refine s_eqI ?_) | (with_reducible refine s_eqS ?_) | (with_reducible refine s_eqB ?_) | (with_reducible refine s_neI ?_) | (with_reducible refine s_neS ?_) | (with_reducible refine s_neB ?_)
  | (with_reducible refine s_tupE ?_) | (with_reducible refine s_lstE ?_))
local macro_rules | `(tactic| walk_at "us") => `(tactic| repeat walk_at "us1")
local macro_rules | `(tactic| walk_at "ulen") => `(tactic| (intro vs H Q E h; repeat' (first | (obtain ⟨e, _⟩ := h; subst e; rfl) | (subst h; rfl) | (refine Or.elim h (fun h => ?_) (fun h => ?_)) | (obtain ⟨_, h⟩ := h))))
local macro_rules | `(tactic| walk_at "uk") => `(tactic| (try dsimp only [cxOf, Cx.suite, Cx.tr]))
local macro_rules | `(tactic| walk_at "us2") => `(tactic| first
  | walk_at "us1" | (with_reducible refine s_dput ?_) | ((with_reducible refine' s_mod ?hc ?_); (case hc => first | decide | assumption | omega))
  | (with_reducible refine s_for ?_) | (with_reducible refine s_lc ?_) | (with_reducible refine s_itl ?_) | (with_reducible refine s_itt ?_) | (with_reducible refine s_its ?_) | (with_reducible refine s_itr ?_) | (with_reducible refine s_itr2 ?_) | (with_reducible refine s_disp ?_) | (with_reducible refine s_prn ?_) | (with_reducible refine s_prc ?_) | (with_reducible refine s_m1 ?_) | (with_reducible refine s_isS ?_) | (with_reducible refine s_um1 ?_) | (with_reducible refine s_isB ?_) | (with_reducible refine s_isn ?_) | (with_reducible refine s_notn ?_) | (with_reducible refine s_jd ?_) | (with_reducible refine s_jn ?_) | (with_reducible refine s_jc ?_) | (with_reducible refine s_fmt ?_) | (with_reducible refine s_gc ?_) | (with_reducible refine s_gnil ?_) | (with_reducible refine s_yes ?_) | (with_reducible refine s_raise ?_)
  | ((with_reducible refine' s_pow ?hc ?_); (case hc => exact ⟨by decide, by decide, by decide⟩)) | (with_reducible refine s_int ?_) | (with_reducible refine s_intB ?_) | (with_reducible refine s_strS ?_) | (with_reducible refine s_abs ?_) | (with_reducible refine s_max ?_) | (with_reducible refine s_min ?_) | (with_reducible refine s_gcd ?_)
  | (with_reducible refine s_chain ?_) | (with_reducible refine s_sl ?_) | (with_reducible refine s_noP ?_) | (with_reducible refine s_part ?_) | (with_reducible refine s_exI ?_) 
  | ((with_reducible refine' s_mulI ?hc ?_); (case hc => first | exact Or.inl (Or.inr ⟨by decide, by decide⟩) | exact Or.inl (Or.inl ⟨by decide, by decide⟩) | exact Or.inl (Or.inl ⟨by omega, by omega⟩) | exact Or.inl (Or.inr ⟨by omega, by omega⟩) | walk_at "umul"))
  | ((with_reducible refine' s_ixT ?hc ?hd ?_); (case hc => assumption); (case hd => rfl))
  | ((with_reducible refine' s_lenL ?hc ?_); (case hc => first | assumption | exact SqL.of (by assumption))) | ((with_reducible refine' s_lenT ?hc ?_); (case hc => first | assumption | exact SqT.of (by assumption)))
  | ((with_reducible refine' s_divP ?hc ?hd ?_); (case hc => first | decide | assumption | omega); (case hd => first | decide +kernel | assumption)))
local macro_rules | `(tactic| walk_at "us") => `(tactic| repeat walk_at "us2")
local macro_rules | `(tactic| walk_at "uj") => `(tactic| ((walk_at "us"); with_reducible refine s_J ?_))
local macro_rules | `(tactic| walk_at "ua") => `(tactic| ((walk_at "us"); repeat ((first | (refine s_iF ?_) | (refine s_iT ?_)); (walk_at "us"))))
local macro_rules | `(tactic| walk_at "ub") => `(tactic| walk_at "ua")
local macro_rules | `(tactic| walk_at "ux1") => `(tactic| first
  | walk_at "us2" | ((with_reducible refine' s_ixL ?hc ?hd ?_); (case hc => first | assumption | exact SqL.of (by assumption)); (case hd => rfl)) | ((with_reducible refine' s_ixT ?hc ?hd ?_); (case hc => exact SqT.of (by assumption)); (case hd => rfl))
  | ((with_reducible refine' s_intS ?hc ?hd ?_); (case hc => assumption); (case hd => assumption)) | ((with_reducible refine' s_lenS ?hc ?_); (case hc => assumption)))
local macro_rules | `(tactic| walk_at "ux") => `(tactic| repeat walk_at "ux1")
local macro_rules | `(tactic| walk_at "uy") => `(tactic| ((walk_at "ux"); repeat ((first | (refine s_iF ?_) | (refine s_iT ?_)); (walk_at "ux"))))
local macro_rules | `(tactic| walk_at "umul") => `(tactic| exact Or.inr (mulB (by assumption) (by assumption)))
theorem one_len (c : Nat) : (⟨#[c]⟩ : Str).length = 1 := rfl
section
variable {P : Program} {w : World} {K : PySem.W.Frag} {mg : Str → Option Value} {base : Heap}
variable {cE cB cN : Addr}
theorem ok_l_spoilt (T : Tp P K mg cE cB cN)
    (c_l_choice : Cal P w K mg base 2 "_law_choice" P_l_choice [] (spChoice K))
    (c_l_pick : Cal P w K mg base 1 "_law_pick" P_l_pick [] (spPick))
    {f : Addr} {fd : FuncData} {dvs : List V} (F : FunD K "_law_spoilt" "_law_spoilt" (defArgs s_l_spoilt) (defBody s_l_spoilt) (defScope s_l_spoilt) dvs [] f fd) : FnG P w K mg base 3 f fd P_l_spoilt (spSpoilt) := by
  refine fng F sc_l_spoilt (by walk_at "ulen") (fun cdv A outer s H vs Q E hr0 hg0 h => ?_)
  have hr : Rm 2 (A.deeper (envOfC "_law_spoilt" (defScope s_l_spoilt) s.heap.objs.size f cdv)) := ⟨hr0, hg0⟩
  have nd : N_l_spoilt.Nodup := sc_l_spoilt.nd
  have po : PassesOwn (model P w) (cxOf (L2.CX P w) P w K mg base N_l_spoilt "_law_spoilt" (defScope s_l_spoilt) f cdv A outer s H E).A (cxOf (L2.CX P w) P w K mg base N_l_spoilt "_law_spoilt" (defScope s_l_spoilt) f cdv A outer s H E).env (cxOf (L2.CX P w) P w K mg base N_l_spoilt "_law_spoilt" (defScope s_l_spoilt) f cdv A outer s H E).xe := passes_of rfl
  obtain ⟨b, z, rfl, hb, hz, k⟩ := h
  refine ⟨_, (pss_cons (ps_for po rfl (pi_range1 (by rfl) T.range (pa_cons (pe_op op_uAdd pe_int (pe_c (E := En) c_l_pick (hr.mono (by decide)) paN (pa_cons (pv 0) (pa_cons pe_int pa_nil)))) pa_nil)) (pg_name (i := 2) nd rfl (Or.inl rfl))
    (pss_cons (ps_set (i := 3) nd rfl (Or.inl rfl) (pe_c (E := En) c_l_choice (hr.mono (by decide)) paN (pa_cons (pv 0) (pa_cons (pe_lst (pa_cons pe_int (pa_cons pe_int (pa_cons (pe_callB call_uLen (by rfl) T.len b_len (pa_cons (pv 1) pa_nil)) (pa_cons (pe_callB (call_uMax rfl) (by rfl) T.max b_max (pa_cons pe_int (pa_cons (pe_op op_sub (pe_callB call_uLen (by rfl) T.len b_len (pa_cons (pv 1) pa_nil)) pe_int) pa_nil))) (pa_cons (pe_op op_uAdd (pe_m1 PySem.F.slot_str_find PySem.F.type_str_find mt_uFind (pv 1) pe_str) pe_int) (pa_cons (pe_c (E := En) c_l_pick (hr.mono (by decide)) paN (pa_cons (pv 0) (pa_cons (pe_op op_uAdd (pe_callB call_uLen (by rfl) T.len b_len (pa_cons (pv 1) pa_nil)) pe_int) pa_nil))) pa_nil))))))) pa_nil))))
    (pss_cons (ps_set (i := 4) nd rfl (Or.inl rfl) (pe_c (E := En) c_l_choice (hr.mono (by decide)) paN (pa_cons (pv 0) (pa_cons pe_str pa_nil))))
    (pss_cons (ps_set (i := 5) nd rfl (Or.inl rfl) (pe_c (E := En) c_l_pick (hr.mono (by decide)) paN (pa_cons (pv 0) (pa_cons pe_int pa_nil))))
    (pss_one (ps_if (pt_cmpR (op_uEq hr.r.units) (pv 5) pe_int (nomark _)) (pss_one (ps_set (i := 1) nd rfl (Or.inl rfl) (pe_op op_uAdd (pe_op op_uAdd (pe_slice sl_u (pv 1) po_none (po_some (pv 3))) (pv 4)) (pe_slice sl_u (pv 1) (po_some (pv 3)) po_none)))) (pss_one (ps_if (pt_cmpR (op_uEq hr.r.units) (pv 5) pe_int (nomark _)) (pss_one (ps_set (i := 1) nd rfl (Or.inl rfl) (pe_op op_uAdd (pe_slice sl_u (pv 1) po_none (po_some (pv 3))) (pe_slice sl_u (pv 1) (po_some (pe_op op_uAdd (pv 3) pe_int)) po_none)))) (pss_one (ps_set (i := 1) nd rfl (Or.inl rfl) (pe_op op_uAdd (pe_op op_uAdd (pe_slice sl_u (pv 1) po_none (po_some (pv 3))) (pv 4)) (pe_slice sl_u (pv 1) (po_some (pe_op op_uAdd (pv 3) pe_int)) po_none))))))))))))
    (pss_one (ps_ret (pv 1)))), ?_⟩
  walk_at "uk"
  walk_at "us"
  refine ⟨b, 2, rfl, hb, by decide, by decide, fun n H1 n0 n1 k1 => ?_⟩
  walk_at "us"
  refine s_rng1 ⟨by omega, by omega⟩ ?_
  refine loopR (fun i σ' H' => Kb b H H' ∧ ∃ (x : Str) (o2 o3 o4 o5 : Option V), x.length + 1 ≤ 1501 * 2 ^ i ∧ σ' = ((((L2.start N_l_spoilt [.ref b, .str x]).set 2 o2).set 3 o3).set 4 o4).set 5 o5) ⟨k1, z, none, none, none, none, by omega, rfl⟩ ?_ ?_
  · rintro σ' H' ⟨kh, x, o2, o3, o4, o5, hx, rfl⟩
    walk_at "us"
    refine k _ _ ?_ kh
    have : (2 : Nat) ^ (1 + n).toNat ≤ 2 ^ 2 := Nat.pow_le_pow_right (by decide) (by omega)
    have := Nat.mul_le_mul_left 1501 this
    omega
  · rintro i σ' H' hi ⟨kh, x, o2, o3, o4, o5, hx, rfl⟩
    have hp : (2 : Nat) ^ i ≤ 2 ^ 1 := Nat.pow_le_pow_right (by decide) (by omega)
    have hp2 := Nat.mul_le_mul_left 1501 hp
    have xl : x.length ≤ sizeLine := by show _ ≤ 16777216; omega
    walk_at "ux"
    refine ⟨b, _, rfl, kh.b1, by omega, Nat.lt_trans (log_le (n := 64) (by omega) (by decide)) (by decide), fun r H2 r0 r1 k2 => ?_⟩
    walk_at "ux"
    refine s_szN (Nat.le_of_ble_eq_true rfl) fun p hp' => ?_
    walk_at "ux"
    have k3 : ∀ o, Kb b H (upd H2 p o) := fun o => (kh.tr k2).tr ((exN hp').kb k2.b1)
    refine ⟨b, (k3 _).b1, .inl ⟨p, _, rfl, .of upd_same, Nat.succ_pos _, Nat.le_of_ble_eq_true rfl, fun v H4 hv k4 => ?_⟩⟩
    obtain ⟨at_, rfl⟩ : ∃ j, v = V.int j := by
      simp only [List.mem_cons, List.not_mem_nil, or_false] at hv
      rcases hv with rfl | rfl | rfl | rfl | rfl | rfl <;> exact ⟨_, rfl⟩
    have k34 := (k3 _).tr k4
    walk_at "ux"
    refine ⟨b, k34.b1, .inr ⟨_, rfl, by decide +kernel, by decide +kernel, fun c H5 k5 => ?_⟩⟩
    walk_at "ux"
    have k6 := k34.tr k5
    refine ⟨b, 3, rfl, k6.b1, by decide, by decide, fun way H6 w0 w1 k7 => ?_⟩
    have k8 := k6.tr k7
    have lo := cutS_length x none (some at_)
    have hi1 := cutS_length x (some at_) none
    have hi2 := cutS_length x (some (at_ + 1)) none
    have ol := one_len c
    walk_at "ux"
    refine s_ite (fun hw => ?_) (fun hw => ?_)
    · walk_at "ux"
      refine s_slS xl ?_
      walk_at "ux"
      refine s_addS (by show _ ≤ 16777216; omega) ?_
      walk_at "ux"
      refine s_slS xl ?_
      walk_at "ux"
      refine s_addS (by rw [app_len]; show _ ≤ 16777216; omega) ?_
      walk_at "ux"
      refine ⟨k8, _, some (.int (0 + i)), some (.int at_), some (.str ⟨#[c]⟩), some (.int way), ?_, rfl⟩
      rw [app_len, app_len, Nat.pow_succ]
      omega
    walk_at "ux"
    refine s_ite (fun hw => ?_) (fun hw => ?_)
    · walk_at "ux"
      refine s_slS xl ?_
      walk_at "ux"
      refine s_slS xl ?_
      walk_at "ux"
      refine s_addS (by show _ ≤ 16777216; omega) ?_
      walk_at "ux"
      refine ⟨k8, _, some (.int (0 + i)), some (.int at_), some (.str ⟨#[c]⟩), some (.int way), ?_, rfl⟩
      rw [app_len, Nat.pow_succ]
      omega
    · walk_at "ux"
      refine s_slS xl ?_
      walk_at "ux"
      refine s_addS (by show _ ≤ 16777216; omega) ?_
      walk_at "ux"
      refine s_slS xl ?_
      walk_at "ux"
      refine s_addS (by rw [app_len]; show _ ≤ 16777216; omega) ?_
      walk_at "ux"
      refine ⟨k8, _, some (.int (0 + i)), some (.int at_), some (.str ⟨#[c]⟩), some (.int way), ?_, rfl⟩
      rw [app_len, app_len, Nat.pow_succ]
      omega
end
end Lw

set_option Elab.async false
set_option linter.all false
set_option maxRecDepth 100000
set_option maxHeartbeats 4000000
namespace Lw
open PySem PySem.Spec L2 Uv
open PyProof.Rows hiding St
local macro_rules | `(tactic| walk_at "umul") => `(tactic| fail)
local macro_rules | `(tactic| walk_at "us1") => `(tactic| first
  | (with_reducible refine s_seq ?_) | (with_reducible refine s_asg ?_) | (with_reducible refine s_gn ?_) | (with_reducible refine s_ret ?_) | (with_reducible refine s_drop ?_) | (with_reducible refine s_if ?_) | (with_reducible refine s_next ?_)
  | (with_reducible refine s_brk ?_) | (with_reducible refine s_cont ?_)
  | ((with_reducible refine' s_var ?hv ?_); (case hv => exact rfl)) | (with_reducible refine s_c ?_) | (with_reducible refine s_op ?_) | (with_reducible refine s_un ?_) | (with_reducible refine s_cb ?_) | (with_reducible refine s_call ?_)
  | (with_reducible refine s_cons ?_) | (with_reducible refine s_nil ?_) | (with_reducible refine s_test ?_) | (with_reducible refine s_tB ?_) | (with_reducible refine s_not ?_) | (with_reducible refine s_and ?_) | (with_reducible refine s_or ?_)
  | (with_reducible refine s_andV ?_) | (with_reducible refine s_orV ?_) | (with_reducible refine s_notV ?_) | (with_reducible refine s_ifE ?_) | (with_reducible refine s_bl ?_) | (with_reducible refine s_iT ?_) | (with_reducible refine s_iF ?_)
  | (with_reducible refine s_I0 ?_) | (with_reducible refine s_U ?_) | (with_reducible refine s_addI ?_) | (with_reducible refine s_eqI ?_) | (with_reducible refine s_eqS ?_) | (with_reducible refine s_eqB ?_) | (with_reducible refine s_neI ?_) | (with_reducible refine s_neS ?_) | (with_reducible refine s_neB ?_)
  | (with_reducible refine s_tupE ?_) | (with_reducible refine s_lstE ?_))
local macro_rules | `(tactic| walk_at "us") => `(tactic| repeat walk_at "us1")
local macro_rules | `(tactic| walk_at "ulen") => `(tactic| (intro vs H Q E h; repeat' (first | (obtain ⟨e, _⟩ := h; subst e; rfl) | (subst h; rfl) | (refine Or.elim h (fun h => ?_) (fun h => ?_)) | (obtain ⟨_, h⟩ := h))))
local macro_rules | `(tactic| walk_at "uk") => `(tactic| (try dsimp only [cxOf, Cx.suite, Cx.tr]))
local macro_rules | `(tactic| walk_at "us2") => `(tactic| first
  | walk_at "us1" | (with_reducible refine s_dput ?_) | ((with_reducible refine' s_mod ?hc ?_); (case hc => first | decide | assumption | omega))
  | (with_reducible refine s_for ?_) | (with_reducible refine s_lc ?_) | (with_reducible refine s_itl ?_) | (with_reducible refine s_itt ?_) | (with_reducible refine s_its ?_) | (with_reducible refine s_itr ?_) | (with_reducible refine s_itr2 ?_) | (with_reducible refine s_disp ?_) | (with_reducible refine s_prn ?_) | (with_reducible refine s_prc ?_) | (with_reducible refine s_m1 ?_) | (with_reducible refine s_isS ?_) | (with_reducible refine s_um1 ?_) | (with_reducible refine s_isB ?_) | (with_reducible refine s_isn ?_) | (with_reducible refine s_notn ?_) | (with_reducible refine s_jd ?_) | (with_reducible refine s_jn ?_) | (with_reducible refine s_jc ?_) | (with_reducible refine s_fmt ?_) | (with_reducible refine s_gc ?_) | (with_reducible refine s_gnil ?_) | (with_reducible refine s_yes ?_) | (with_reducible refine s_raise ?_)
  | ((with_reducible refine' s_pow ?hc ?_); (case hc => exact ⟨by decide, by decide, by decide⟩)) | (with_reducible refine s_int ?_) | (with_reducible refine s_intB ?_) | (with_reducible refine s_strS ?_) | (with_reducible refine s_abs ?_) | (with_reducible refine s_max ?_) | (with_reducible refine s_min ?_) | (with_reducible refine s_gcd ?_)
  | (with_reducible refine s_chain ?_) | (with_reducible refine s_sl ?_) | (with_reducible refine s_noP ?_) | (with_reducible refine s_part ?_) | (with_reducible refine s_exI ?_) 
  | ((with_reducible refine' s_mulI ?hc ?_); (case hc => first | exact Or.inl (Or.inr ⟨by decide, by decide⟩) | exact Or.inl (Or.inl ⟨by decide, by decide⟩) | exact Or.inl (Or.inl ⟨by omega, by omega⟩) | exact Or.inl (Or.inr ⟨by omega, by omega⟩) | walk_at "umul"))
  | ((with_reducible refine' s_ixT ?hc ?hd ?_); (case hc => assumption); (case hd => rfl))
  | ((with_reducible refine' s_lenL ?hc ?_); (case hc => first | assumption | exact SqL.of (by assumption))) | ((with_reducible refine' s_lenT ?hc ?_); (case hc => first | assumption | exact SqT.of (by assumption)))
  | ((with_reducible refine' s_divP ?hc ?hd ?_); (case hc => first | decide | assumption | omega); (case hd => first | decide +kernel | assumption)))
local macro_rules | `(tactic| walk_at "us") => `(tactic| repeat walk_at "us2")
local macro_rules | `(tactic| walk_at "uj") => `(tactic| ((walk_at "us"); with_reducible refine s_J ?_))
local macro_rules | `(tactic| walk_at "ua") => `(tactic| ((walk_at "us"); repeat ((first | (refine s_iF ?_) | (refine s_iT ?_)); (walk_at "us"))))
local macro_rules | `(tactic| walk_at "ub") => `(tactic| walk_at "ua")
local macro_rules | `(tactic| walk_at "ux1") => `(tactic| first
  | walk_at "us2" | ((with_reducible refine' s_ixL ?hc ?hd ?_); (case hc => first | assumption | exact SqL.of (by assumption)); (case hd => rfl)) | ((with_reducible refine' s_ixT ?hc ?hd ?_); (case hc => exact SqT.of (by assumption)); (case hd => rfl))
  | ((with_reducible refine' s_intS ?hc ?hd ?_); (case hc => assumption); (case hd => assumption)) | ((with_reducible refine' s_lenS ?hc ?_); (case hc => assumption)))
local macro_rules | `(tactic| walk_at "ux") => `(tactic| repeat walk_at "ux1")
local macro_rules | `(tactic| walk_at "uy") => `(tactic| ((walk_at "ux"); repeat ((first | (refine s_iF ?_) | (refine s_iT ?_)); (walk_at "ux"))))
local macro_rules | `(tactic| walk_at "umul") => `(tactic| exact Or.inr (mulB (by assumption) (by assumption)))
abbrev tx1 : List V := [.str "", .str "-", .str "/", .str "0", .str "7", .str "-7", .str "00", .str "01", .str "-01", .str "-0", .str "0/1", .str "0/2", .str "-0/2", .str "2/4", .str "4/2", .str "3/1", .str "-3/1", .str "1/0"]
abbrev tx2 : List V := [.str "1/-2", .str "-1/2", .str "-1/-2", .str "+1", .str "--1", .str "1-", .str " 1", .str "1 ", .str "1 /2", .str "1/ 2", .str "1_0", .str "1/2/3", .str "1//2", .str "/2"]
abbrev tx3 : List V := [.str "1/", .str "-/2", .str "1.5", .str "1e3", .str "0x1", .str "a", .str "1/02", .str "01/2", .str "12/35", .str "-12/35", .str "35/12", .str "10/15", .str "1/2\n"]
def txB (v : V) : Bool := match v with | .str z => decide (z.length ≤ 2000) | _ => false
theorem txs {xs : List V} (h : xs.all txB = true) : ∃ zs : List Str, xs = zs.map V.str ∧ (∀ z ∈ zs, z.length ≤ 2000) ∧ zs.length = xs.length := by
  induction xs with
  | nil => exact ⟨[], rfl, (fun z h => by cases h), rfl⟩
  | cons x r ih =>
    rw [List.all_cons, Bool.and_eq_true] at h
    obtain ⟨zs, e, hz, hl⟩ := ih h.2
    cases x with
    | str z => exact ⟨z :: zs, by rw [e]; rfl, fun y hy => by
        rcases List.mem_cons.mp hy with rfl | hy
        · exact of_decide_eq_true h.1
        · exact hz y hy, by rw [List.length_cons, List.length_cons, hl]⟩
    | _ => exact absurd h.1 (by simp [txB])
theorem mulok1 (c : Nat) {n : Int} (h0 : 0 ≤ n) (h1 : n ≤ 1000) : MulOk ⟨#[c]⟩ n := by
  refine ⟨by simp; omega, fun h _ q => ?_, fun _ _ => ?_⟩
  · have e : ((⟨#[c]⟩ : Str).length : Int) = 1 := rfl
    rw [e] at q
    have : 1 ≤ (2 ^ 63 - 1) / n := Int.le_ediv_of_mul_le (by omega) (by omega)
    omega
  · exact decide_eq_false (show ¬ (1 * n.toNat > 16777216) by omega)
theorem mullen1 (c : Nat) {n : Int} (N : Nat) (h : n ≤ (N : Int)) : (Txt.mul ⟨#[c]⟩ n).length ≤ N := len_mul_one rfl h
section
variable {P : Program} {w : World} {K : PySem.W.Frag} {mg : Str → Option Value} {base : Heap}
variable {cE cB cN : Addr}
theorem ok_l_odd_texts (T : Tp P K mg cE cB cN)
    (c_l_pick : Cal P w K mg base 1 "_law_pick" P_l_pick [] (spPick))
    {f : Addr} {fd : FuncData} {dvs : List V} (F : FunD K "_law_odd_texts" "_law_odd_texts" (defArgs s_l_odd_texts) (defBody s_l_odd_texts) (defScope s_l_odd_texts) dvs [] f fd) : FnG P w K mg base 2 f fd P_l_odd_texts (spOddTexts) := by
  refine fng F sc_l_odd_texts (by walk_at "ulen") (fun cdv A outer s H vs Q E hr0 hg0 h => ?_)
  have hr : Rm 1 (A.deeper (envOfC "_law_odd_texts" (defScope s_l_odd_texts) s.heap.objs.size f cdv)) := ⟨hr0, hg0⟩
  have nd : N_l_odd_texts.Nodup := sc_l_odd_texts.nd
  obtain ⟨b, rfl, hb, k⟩ := h
  refine ⟨_, (pss_cons (ps_set (i := 1) nd rfl (Or.inl rfl) (pe_lst (pa_cons pe_str (pa_cons pe_str (pa_cons pe_str (pa_cons pe_str (pa_cons pe_str (pa_cons pe_str (pa_cons pe_str (pa_cons pe_str (pa_cons pe_str (pa_cons pe_str (pa_cons pe_str (pa_cons pe_str (pa_cons pe_str (pa_cons pe_str (pa_cons pe_str (pa_cons pe_str (pa_cons pe_str (pa_cons pe_str pa_nil))))))))))))))))))))
    (pss_cons (ps_set (i := 1) nd rfl (Or.inl rfl) (pe_op op_uAdd (pv 1) (pe_lst (pa_cons pe_str (pa_cons pe_str (pa_cons pe_str (pa_cons pe_str (pa_cons pe_str (pa_cons pe_str (pa_cons pe_str (pa_cons pe_str (pa_cons pe_str (pa_cons pe_str (pa_cons pe_str (pa_cons pe_str (pa_cons pe_str (pa_cons pe_str pa_nil)))))))))))))))))
    (pss_cons (ps_set (i := 1) nd rfl (Or.inl rfl) (pe_op op_uAdd (pv 1) (pe_lst (pa_cons pe_str (pa_cons pe_str (pa_cons pe_str (pa_cons pe_str (pa_cons pe_str (pa_cons pe_str (pa_cons pe_str (pa_cons pe_str (pa_cons pe_str (pa_cons pe_str (pa_cons pe_str (pa_cons pe_str (pa_cons pe_str pa_nil))))))))))))))))
    (pss_cons (ps_set (i := 2) nd rfl (Or.inl rfl) (pe_op op_uAdd (pe_ix ix_seq pe_str (pe_c (E := En) c_l_pick (hr.mono (by decide)) paN (pa_cons (pv 0) (pa_cons pe_int pa_nil))) (fun _ _ => rfl)) (pe_op op_uMul (pe_ix ix_seq pe_str (pe_c (E := En) c_l_pick (hr.mono (by decide)) paN (pa_cons (pv 0) (pa_cons pe_int pa_nil))) (fun _ _ => rfl)) (pe_op op_uAdd pe_int (pe_c (E := En) c_l_pick (hr.mono (by decide)) paN (pa_cons (pv 0) (pa_cons pe_int pa_nil)))))))
    (pss_cons (ps_set (i := 3) nd rfl (Or.inl rfl) (pe_op op_uAdd (pe_op op_uMul (pe_ix ix_seq pe_str (pe_c (E := En) c_l_pick (hr.mono (by decide)) paN (pa_cons (pv 0) (pa_cons pe_int pa_nil))) (fun _ _ => rfl)) pe_int) (pe_ix ix_seq pe_str (pe_c (E := En) c_l_pick (hr.mono (by decide)) paN (pa_cons (pv 0) (pa_cons pe_int pa_nil))) (fun _ _ => rfl))))
    (pss_one (ps_ret (pe_op op_uAdd (pv 1) (pe_lst (pa_cons (pv 2) (pa_cons (pe_op op_uAdd pe_str (pv 2)) (pa_cons (pe_op op_uAdd pe_str (pv 2)) (pa_cons (pe_op op_uAdd pe_str (pv 2)) (pa_cons (pe_op op_uAdd (pv 2) pe_str) (pa_cons (pe_op op_uAdd (pe_op op_uAdd (pv 2) pe_str) (pv 3)) (pa_cons (pe_op op_uAdd (pe_op op_uAdd (pe_op op_uAdd pe_str (pv 3)) pe_str) (pv 2)) pa_nil)))))))))))))))), ?_⟩
  walk_at "uk"
  walk_at "ux"
  refine s_szN (Nat.le_of_ble_eq_true rfl) fun p1 n1 => ?_
  have e1 := exN (o := .lst tx1) n1
  have f1 : upd H p1 (.lst tx1) p1 = _ := upd_same
  generalize upd H p1 (.lst tx1) = H1 at e1 f1
  walk_at "ux"
  refine s_szN (Nat.le_of_ble_eq_true rfl) fun p2 n2 => ?_
  have e2 := e1.tr (exN (o := .lst tx2) n2)
  have f2 : upd H1 p2 (.lst tx2) p2 = _ := upd_same
  have g2 := exN (o := .lst tx2) n2 _ _ f1
  generalize upd H1 p2 (.lst tx2) = H2 at e2 f2 g2
  refine s_addL g2 f2 (Nat.le_of_ble_eq_true rfl) fun p3 n3 => ?_
  have e3 := e2.tr (exN (o := .lst (tx1 ++ tx2)) n3)
  have f3 : upd H2 p3 (.lst (tx1 ++ tx2)) p3 = _ := upd_same
  generalize upd H2 p3 (.lst (tx1 ++ tx2)) = H3 at e3 f3
  walk_at "ux"
  refine s_szN (Nat.le_of_ble_eq_true rfl) fun p4 n4 => ?_
  have e4 := e3.tr (exN (o := .lst tx3) n4)
  have f4 : upd H3 p4 (.lst tx3) p4 = _ := upd_same
  have g4 := exN (o := .lst tx3) n4 _ _ f3
  generalize upd H3 p4 (.lst tx3) = H4 at e4 f4 g4
  refine s_addL g4 f4 (Nat.le_of_ble_eq_true rfl) fun p5 n5 => ?_
  have e5 := e4.tr (exN (o := .lst (tx1 ++ tx2 ++ tx3)) n5)
  have f5 : upd H4 p5 (.lst (tx1 ++ tx2 ++ tx3)) p5 = _ := upd_same
  generalize upd H4 p5 (.lst (tx1 ++ tx2 ++ tx3)) = H5 at e5 f5
  have k5 := e5.kb hb
  walk_at "ux"
  refine ⟨b, 9, rfl, k5.b1, by decide, by decide, fun r H6 r0 r1 k6 => ?_⟩
  have l9 : (("123456789" : Str)).length ≤ sizeLine := by decide +kernel
  have l10 : (("0123456789" : Str)).length ≤ sizeLine := by decide +kernel
  have l5 : (("13579" : Str)).length ≤ sizeLine := by decide +kernel
  obtain ⟨c1, hc1⟩ := ix_str (z := "123456789") r0 (by exact r1)
  refine s_ixS l9 hc1 ?_
  walk_at "ux"
  refine ⟨b, 10, rfl, k6.b1, by decide, by decide, fun r2 H7 r20 r21 k7 => ?_⟩
  obtain ⟨c2, hc2⟩ := ix_str (z := "0123456789") r20 (by exact r21)
  refine s_ixS l10 hc2 ?_
  walk_at "ux"
  refine ⟨b, 4, rfl, k7.b1, by decide, by decide, fun r3 H8 r30 r31 k8 => ?_⟩
  walk_at "ux"
  refine s_mulS (mulok1 c2 (by omega) (by omega)) ?_
  have m1 := mullen1 c2 (n := 398 + r3) 401 (by omega)
  generalize Txt.mul ⟨#[c2]⟩ (398 + r3) = w1 at m1
  have o1 : (⟨#[c1]⟩ : Str).length = 1 := rfl
  refine s_addS (by show _ ≤ 16777216; omega) ?_
  have m2 : ((⟨#[c1]⟩ : Str) ++ w1).length ≤ 402 := by rw [app_len]; omega
  generalize (⟨#[c1]⟩ : Str) ++ w1 = lg at m2
  walk_at "ux"
  refine ⟨b, 10, rfl, k8.b1, by decide, by decide, fun r4 H9 r40 r41 k9 => ?_⟩
  obtain ⟨c4, hc4⟩ := ix_str (z := "0123456789") r40 (by exact r41)
  refine s_ixS l10 hc4 ?_
  walk_at "ux"
  refine s_mulS (mulok1 c4 (by omega) (by omega)) ?_
  have m3 := mullen1 c4 (n := 398) 398 (by omega)
  generalize Txt.mul ⟨#[c4]⟩ 398 = w2 at m3
  walk_at "ux"
  refine ⟨b, 5, rfl, k9.b1, by decide, by decide, fun r5 HA r50 r51 kA => ?_⟩
  obtain ⟨c5, hc5⟩ := ix_str (z := "13579") r50 (by exact r51)
  refine s_ixS l5 hc5 ?_
  have o5 : (⟨#[c5]⟩ : Str).length = 1 := rfl
  refine s_addS (by show _ ≤ 16777216; omega) ?_
  have m4 : (w2 ++ (⟨#[c5]⟩ : Str)).length ≤ 399 := by rw [app_len]; omega
  generalize w2 ++ (⟨#[c5]⟩ : Str) = ot at m4
  have kk := ((((k5.tr k6).tr k7).tr k8).tr k9).tr kA
  have f6 : HA p5 = some (.lst (tx1 ++ tx2 ++ tx3)) := (((((k6.tr k7).tr k8).tr k9).tr kA).at f5 fun _ z => by cases z)
  have s1 : (("-" : Str)).length = 1 := rfl
  have s2 : (("1/" : Str)).length = 2 := rfl
  have s3 : (("-3/" : Str)).length = 3 := rfl
  have s4 : (("/7" : Str)).length = 2 := rfl
  have s5 : (("/8" : Str)).length = 2 := rfl
  have s6 : (("-9" : Str)).length = 2 := rfl
  have s7 : (("/" : Str)).length = 1 := rfl
  walk_at "ux"
  refine s_addS (by show _ ≤ 16777216; omega) ?_
  walk_at "ux"
  refine s_addS (by show _ ≤ 16777216; omega) ?_
  walk_at "ux"
  refine s_addS (by show _ ≤ 16777216; omega) ?_
  walk_at "ux"
  refine s_addS (by show _ ≤ 16777216; omega) ?_
  walk_at "ux"
  refine s_addS (by show _ ≤ 16777216; omega) ?_
  walk_at "ux"
  refine s_addS (by rw [app_len]; show _ ≤ 16777216; omega) ?_
  walk_at "ux"
  refine s_addS (by show _ ≤ 16777216; omega) ?_
  walk_at "ux"
  refine s_addS (by rw [app_len]; show _ ≤ 16777216; omega) ?_
  walk_at "ux"
  refine s_addS (by rw [app_len, app_len]; show _ ≤ 16777216; omega) ?_
  walk_at "ux"
  refine s_szN (Nat.le_of_ble_eq_true rfl) fun p7 n7 => ?_
  let tx4 : List V := [.str lg, .str ("-" ++ lg), .str ("1/" ++ lg), .str ("-3/" ++ lg), .str (lg ++ "/7"), .str (lg ++ "/8" ++ ot), .str ("-9" ++ ot ++ "/" ++ lg)]
  have e7 := exN (o := .lst tx4) n7
  have f7 : upd HA p7 (.lst tx4) p7 = some (.lst tx4) := upd_same
  have g7 := e7 _ _ f6
  refine s_addL g7 f7 (Nat.le_of_ble_eq_true rfl) fun p8 n8 => ?_
  have a1 : (tx1 ++ tx2 ++ tx3).all txB = true := by decide +kernel
  have a2 : tx4.all txB = true := by
    have h : ∀ z : Str, z.length ≤ 2000 → txB (.str z) = true := fun z hz => decide_eq_true hz
    show (txB (.str lg) && (txB (.str ("-" ++ lg)) && (txB (.str ("1/" ++ lg)) && (txB (.str ("-3/" ++ lg)) && (txB (.str (lg ++ "/7")) && (txB (.str (lg ++ "/8" ++ ot)) && (txB (.str ("-9" ++ ot ++ "/" ++ lg)) && true))))))) = true
    rw [h lg (by omega), h ("-" ++ lg) (by rw [app_len]; omega), h ("1/" ++ lg) (by rw [app_len]; omega), h ("-3/" ++ lg) (by rw [app_len]; omega), h (lg ++ "/7") (by rw [app_len]; omega), h (lg ++ "/8" ++ ot) (by rw [app_len, app_len]; omega), h ("-9" ++ ot ++ "/" ++ lg) (by rw [app_len, app_len, app_len]; omega)]
    rfl
  obtain ⟨zs, ez, hz, hl⟩ := txs (xs := tx1 ++ tx2 ++ tx3 ++ tx4) (by rw [List.all_append, a1, a2]; rfl)
  refine k p8 zs _ hz (by rw [hl]; exact Nat.le_of_ble_eq_true rfl) (kk.tr ((e7.tr (exN n8)).kb kA.b1)) ?_
  rw [← ez]
  exact upd_same
end
end Lw

set_option Elab.async false
set_option linter.all false
set_option maxRecDepth 100000
set_option maxHeartbeats 4000000
namespace Lw
open PySem PySem.Spec L2 Uv
open PyProof.Rows hiding St
local macro_rules | `(tactic| walk_at "umul") => `(tactic| fail)
local macro_rules | `(tactic| walk_at "us1") => `(tactic| first
  | (with_reducible refine s_seq ?_) | (with_reducible refine s_asg ?_) | (with_reducible refine s_gn ?_) | (with_reducible refine s_ret ?_) | (with_reducible refine s_drop ?_) | (with_reducible refine s_if ?_) | (with_reducible refine s_next ?_)
  | (with_reducible refine s_brk ?_) | (with_reducible refine s_cont ?_)
  | ((with_reducible refine' s_var ?hv ?_); (case hv => exact rfl)) | (with_reducible refine s_c ?_) | (with_reducible refine s_op ?_) | (with_reducible refine s_un ?_) | (with_reducible refine s_cb ?_) | (with_reducible refine s_call ?_)
  | (with_reducible refine s_cons ?_) | (with_reducible refine s_nil ?_) | (with_reducible refine s_test ?_) | (with_reducible refine s_tB ?_) | (with_reducible refine s_not ?_) | (with_reducible refine s_and ?_) | (with_reducible refine s_or ?_)
  | (with_reducible refine s_andV ?_) | (with_reducible refine s_orV ?_) | (with_reducible refine s_notV ?_) | (with_reducible refine s_ifE ?_) | (with_reducible refine s_bl ?_) | (with_reducible refine s_iT ?_) | (with_reducible refine s_iF ?_)
  | (with_reducible refine s_I0 ?_) | (with_reducible refine s_U ?_) | (with_reducible refine s_addI ?_) | (with_reducible refine s_eqI ?_) | (with_reducible refine s_eqS ?_) | (with_reducible refine s_eqB ?_) | (with_reducible refine s_neI ?_) | (with_reducible refine s_neS ?_) | (with_reducible refine s_neB ?_)
  | (with_reducible refine s_tupE ?_) | (with_reducible refine s_lstE ?_))
local macro_rules | `(tactic| walk_at "us") => `(tactic| repeat walk_at "us1")
local macro_rules | `(tactic| walk_at "ulen") => `(tactic| (intro vs H Q E h; repeat' (first | (obtain ⟨e, _⟩ := h; subst e; rfl) | (subst h; rfl) | (refine Or.elim h (fun h => ?_) (fun h => ?_)) | (obtain ⟨_, h⟩ := h))))
local macro_rules | `(tactic| walk_at "uk") => `(tactic| (try dsimp only [cxOf, Cx.suite, Cx.tr]))
local macro_rules | `(tactic| walk_at "us2") => `(tactic| first
  | walk_at "us1" | (with_reducible refine s_dput ?_) | ((with_reducible refine' s_mod ?hc ?_); (case hc => first | decide | assumption | omega))
  | (with_reducible refine s_for ?_) | (with_reducible refine s_lc ?_) | (with_reducible refine s_itl ?_) | (with_reducible refine s_itt ?_) | (with_reducible refine s_its ?_) | (with_reducible refine s_itr ?_) | (with_reducible refine s_itr2 ?_) | (with_reducible refine s_disp ?_) | (with_reducible refine s_prn ?_) | (with_reducible refine s_prc ?_) | (with_reducible refine s_m1 ?_) | (with_reducible refine s_isS ?_) | (with_reducible refine s_um1 ?_) | (with_reducible refine s_isB ?_) | (with_reducible refine s_isn ?_) | (with_reducible refine s_notn ?_) | (with_reducible refine s_jd ?_) | (with_reducible refine s_jn ?_) | (with_reducible refine s_jc ?_) | (with_reducible refine s_fmt ?_) | (with_reducible refine s_gc ?_) | (with_reducible refine s_gnil ?_) | (with_reducible refine s_yes ?_) | (with_reducible refine s_raise ?_)
  | ((with_reducible refine' s_pow ?hc ?_); (case hc => exact ⟨by decide, by decide, by decide⟩)) | (with_reducible refine s_int ?_) | (with_reducible refine s_intB ?_) | (with_reducible refine s_strS ?_) | (with_reducible refine s_abs ?_) | (with_reducible refine s_max ?_) | (with_reducible refine s_min ?_) | (with_reducible refine s_gcd ?_)
  | (with_reducible refine s_chain ?_) | (with_reducible refine s_sl ?_) | (with_reducible refine s_noP ?_) | (with_reducible refine s_part ?_) | (with_reducible refine s_exI ?_) 
  | ((with_reducible refine' s_mulI ?hc ?_); (case hc => first | exact Or.inl (Or.inr ⟨by decide, by decide⟩) | exact Or.inl (Or.inl ⟨by decide, by decide⟩) | exact Or.inl (Or.inl ⟨by omega, by omega⟩) | exact Or.inl (Or.inr ⟨by omega, by omega⟩) | walk_at "umul"))
  | ((with_reducible refine' s_ixT ?hc ?hd ?_); (case hc => assumption); (case hd => rfl))
  | ((with_reducible refine' s_lenL ?hc ?_); (case hc => first | assumption | exact SqL.of (by assumption))) | ((with_reducible refine' s_lenT ?hc ?_); (case hc => first | assumption | exact SqT.of (by assumption)))
  | ((with_reducible refine' s_divP ?hc ?hd ?_); (case hc => first | decide | assumption | omega); (case hd => first | decide +kernel | assumption)))
local macro_rules | `(tactic| walk_at "us") => `(tactic| repeat walk_at "us2")
local macro_rules | `(tactic| walk_at "uj") => `(tactic| ((walk_at "us"); with_reducible refine s_J ?_))
local macro_rules | `(tactic| walk_at "ua") => `(tactic| ((walk_at "us"); repeat ((first | (refine s_iF ?_) | (refine s_iT ?_)); (walk_at "us"))))
local macro_rules | `(tactic| walk_at "ub") => `(tactic| walk_at "ua")
local macro_rules | `(tactic| walk_at "ux1") => `(tactic| first
  | walk_at "us2" | ((with_reducible refine' s_ixL ?hc ?hd ?_); (case hc => first | assumption | exact SqL.of (by assumption)); (case hd => rfl)) | ((with_reducible refine' s_ixT ?hc ?hd ?_); (case hc => exact SqT.of (by assumption)); (case hd => rfl))
  | ((with_reducible refine' s_intS ?hc ?hd ?_); (case hc => assumption); (case hd => assumption)) | ((with_reducible refine' s_lenS ?hc ?_); (case hc => assumption)))
local macro_rules | `(tactic| walk_at "ux") => `(tactic| repeat walk_at "ux1")
local macro_rules | `(tactic| walk_at "uy") => `(tactic| ((walk_at "ux"); repeat ((first | (refine s_iF ?_) | (refine s_iT ?_)); (walk_at "ux"))))
local macro_rules | `(tactic| walk_at "umul") => `(tactic| exact Or.inr (mulB (by assumption) (by assumption)))
theorem thing_ex {K : PySem.W.Frag} {H H' : Hp} {x : V} (e : Ex H H') (h : Thing K H x ∧ ∃ r, ReprV K H x r) : Thing K H' x ∧ ∃ r, ReprV K H' x r := by
  obtain ⟨h1, r, h2⟩ := h
  refine ⟨?_, r, ?_⟩
  · rcases h1 with ⟨d, hd, z⟩ | ⟨a, rfl, ha⟩
    · exact .inl ⟨d, dp_ex e d _ hd, z⟩
    · exact .inr ⟨a, rfl, e _ _ ha⟩
  · rcases h2 with ⟨d, hd, z⟩ | ⟨a, rfl, ha, z⟩
    · exact .inl ⟨d, dp_ex e d _ hd, z⟩
    · exact .inr ⟨a, rfl, e _ _ ha, z⟩
theorem thing_of {K : PySem.W.Frag} {H : Hp} {x : V} {d : PyData} (h : Dp K H x d) (s : isStrD d = false) (h1 : d.showable = true) (h2 : d.hasDict = false) (h3 : d.depth ≤ 60) (h4 : d.shown.length ≤ sizeLine) : Thing K H x ∧ ∃ r, ReprV K H x r :=
  ⟨.inl ⟨d, h, s⟩, _, .inl ⟨d, h, h1, h2, h3, h4, rfl⟩⟩
section
variable {P : Program} {w : World} {K : PySem.W.Frag} {mg : Str → Option Value} {base : Heap}
variable {cE cB cN : Addr}
theorem ok_l_odd_things (T : Tp P K mg cE cB cN)
    {f : Addr} {fd : FuncData} {dvs : List V} (F : FunD K "_law_odd_things" "_law_odd_things" (defArgs s_l_odd_things) (defBody s_l_odd_things) (defScope s_l_odd_things) dvs [] f fd) : FnG P w K mg base 1 f fd P_l_odd_things (spOddThings K) := by
  refine fng F sc_l_odd_things (by walk_at "ulen") (fun cdv A outer s H vs Q E hr0 hg0 h => ?_)
  have hr : Rm 0 (A.deeper (envOfC "_law_odd_things" (defScope s_l_odd_things) s.heap.objs.size f cdv)) := ⟨hr0, hg0⟩
  have nd : N_l_odd_things.Nodup := sc_l_odd_things.nd
  obtain ⟨rfl, k⟩ := h
  refine ⟨_, (pss_one (ps_ret (pe_lst (pa_cons pe_non (pa_cons pe_int (pa_cons pe_int (pa_cons pe_bl (pa_cons (pe_tup (pa_cons pe_int (pa_cons pe_int pa_nil))) (pa_cons (pe_lst (pa_cons pe_str pa_nil)) (pa_cons (pe_lst pa_nil) (pa_cons pe_dnewK (pa_cons (pe_tup (pa_cons pe_str (pa_cons pe_str pa_nil))) pa_nil)))))))))))), ?_⟩
  walk_at "uk"
  walk_at "us"
  refine s_szN (Nat.le_of_ble_eq_true rfl) fun p1 n1 => ?_
  have e1 := exN (o := .tup [.int 1, .int 2]) n1
  have f1 : upd H p1 (.tup [.int 1, .int 2]) p1 = _ := upd_same
  generalize upd H p1 (.tup [.int 1, .int 2]) = H1 at e1 f1
  walk_at "us"
  refine s_szN (Nat.le_of_ble_eq_true rfl) fun p2 n2 => ?_
  have e2 := exN (o := .lst [.str "1"]) n2
  have f2 : upd H1 p2 (.lst [.str "1"]) p2 = _ := upd_same
  generalize upd H1 p2 (.lst [.str "1"]) = H2 at e2 f2
  walk_at "us"
  refine s_szN (Nat.le_of_ble_eq_true rfl) fun p3 n3 => ?_
  have e3 := exN (o := .lst []) n3
  have f3 : upd H2 p3 (.lst []) p3 = _ := upd_same
  generalize upd H2 p3 (.lst []) = H3 at e3 f3
  walk_at "us"
  intro p4 n4
  have e4 := exN (o := .dK []) n4
  have f4 : upd H3 p4 (.dK []) p4 = _ := upd_same
  generalize upd H3 p4 (.dK []) = H4 at e4 f4
  walk_at "us"
  refine s_szN (Nat.le_of_ble_eq_true rfl) fun p5 n5 => ?_
  have e5 := exN (o := .tup [.str "1", .str "2"]) n5
  have f5 : upd H4 p5 (.tup [.str "1", .str "2"]) p5 = _ := upd_same
  generalize upd H4 p5 (.tup [.str "1", .str "2"]) = H5 at e5 f5
  walk_at "us"
  refine s_szN (Nat.le_of_ble_eq_true rfl) fun p6 n6 => ?_
  have e6 := exN (o := .lst [.non, .int 5, .int 0, .bl true, .ref p1, .ref p2, .ref p3, .ref p4, .ref p5]) n6
  refine k p6 _ _ (((((e1.tr e2).tr e3).tr e4).tr e5).tr e6) upd_same fun x hx => ?_
  refine thing_ex e6 ?_
  simp only [List.mem_cons, List.not_mem_nil, or_false] at hx
  rcases hx with rfl | rfl | rfl | rfl | rfl | rfl | rfl | rfl | rfl
  · exact thing_of .non rfl rfl rfl (by decide +kernel) (by decide +kernel)
  · exact thing_of (.int 5) rfl (by decide +kernel) (by decide +kernel) (by decide +kernel) (by decide +kernel)
  · exact thing_of (.int 0) rfl (by decide +kernel) (by decide +kernel) (by decide +kernel) (by decide +kernel)
  · exact thing_of (.bl true) rfl (by decide +kernel) (by decide +kernel) (by decide +kernel) (by decide +kernel)
  · refine thing_ex (((e2.tr e3).tr e4).tr e5) ?_
    exact thing_of (.tup (.of f1) (.cons (.int 1) (.cons (.int 2) .nil))) rfl (by decide +kernel) (by decide +kernel) (by decide +kernel) (by decide +kernel)
  · refine thing_ex ((e3.tr e4).tr e5) ?_
    exact thing_of (.lst (.of f2) (.cons (.str "1") .nil)) rfl (by decide +kernel) (by decide +kernel) (by decide +kernel) (by decide +kernel)
  · refine thing_ex (e4.tr e5) ?_
    exact thing_of (.lst (.of f3) .nil) rfl (by decide +kernel) (by decide +kernel) (by decide +kernel) (by decide +kernel)
  · refine thing_ex e5 ?_
    exact ⟨.inr ⟨p4, rfl, f4⟩, _, .inr ⟨p4, rfl, f4, rfl⟩⟩
  · exact thing_of (.tup (.of f5) (.cons (.str "1") (.cons (.str "2") .nil))) rfl (by decide +kernel) (by decide +kernel) (by decide +kernel) (by decide +kernel)
end
end Lw

set_option Elab.async false
set_option linter.all false
set_option maxRecDepth 100000
set_option maxHeartbeats 4000000
namespace Lw
open PySem PySem.Spec L2 Uv
open PyProof.Rows hiding St
local macro_rules | `(tactic| walk_at "umul") => `(tactic| fail)
local macro_rules | `(tactic| walk_at "us1") => `(tactic| first
  | (with_reducible refine s_seq ?_) | (with_reducible refine s_asg ?_) | (with_reducible refine s_gn ?_) | (with_reducible refine s_ret ?_) | (with_reducible refine s_drop ?_) | (with_reducible refine s_if ?_) | (with_reducible refine s_next ?_)
  | (with_reducible refine s_brk ?_) | (with_reducible refine s_cont ?_)
  | ((with_reducible refine' s_var ?hv ?_); (case hv => exact rfl)) | (with_reducible refine s_c ?_) | (with_reducible refine s_op ?_) | (with_reducible refine s_un ?_) | (with_reducible refine s_cb ?_) | (with_reducible refine s_call ?_)
  | (with_reducible refine s_cons ?_) | (with_reducible refine s_nil ?_) | (with_reducible refine s_test ?_) | (with_reducible refine s_tB ?_) | (with_reducible refine s_not ?_) | (with_reducible refine s_and ?_) | (with_reducible refine s_or ?_)
  | (with_reducible refine s_andV ?_) | (with_reducible refine s_orV ?_) | (with_reducible refine s_notV ?_) | (with_reducible refine s_ifE ?_) | (with_reducible refine s_bl ?_) | (with_reducible refine s_iT ?_) | (with_reducible refine s_iF ?_)
  | (with_reducible refine s_I0 ?_) | (with_reducible refine s_U ?_) | (with_reducible refine s_addI ?_) | (with_reducible refine s_eqI ?_) | (with_reducible refine s_eqS ?_) | (with_reducible refine s_eqB ?_) | (with_reducible refine s_neI ?_) | (with_reducible refine s_neS ?_) | (with_reducible refine s_neB ?_)
  | (with_reducible refine s_tupE ?_) | (with_reducible refine s_lstE ?_))
local macro_rules | `(tactic| walk_at "us") => `(tactic| repeat walk_at "us1")
local macro_rules | `(tactic| walk_at "ulen") => `(tactic| (intro vs H Q E h; repeat' (first | (obtain ⟨e, _⟩ := h; subst e; rfl) | (subst h; rfl) | (refine Or.elim h (fun h => ?_) (fun h => ?_)) | (obtain ⟨_, h⟩ := h))))
local macro_rules | `(tactic| walk_at "uk") => `(tactic| (try dsimp only [cxOf, Cx.suite, Cx.tr]))
local macro_rules | `(tactic| walk_at "us2") => `(tactic| first
  | walk_at "us1" | (with_reducible refine s_dput ?_) | ((with_reducible refine' s_mod ?hc ?_); (case hc => first | decide | assumption | omega))
  | (with_reducible refine s_for ?_) | (with_reducible refine s_lc ?_) | (with_reducible refine s_itl ?_) | (with_reducible refine s_itt ?_) | (with_reducible refine s_its ?_) | (with_reducible refine s_itr ?_) | (with_reducible refine s_itr2 ?_) | (with_reducible refine s_disp ?_) | (with_reducible refine s_prn ?_) | (with_reducible refine s_prc ?_) | (with_reducible refine s_m1 ?_) | (with_reducible refine s_isS ?_) | (with_reducible refine s_um1 ?_) | (with_reducible refine s_isB ?_) | (with_reducible refine s_isn ?_) | (with_reducible refine s_notn ?_) | (with_reducible refine s_jd ?_) | (with_reducible refine s_jn ?_) | (with_reducible refine s_jc ?_) | (with_reducible refine s_fmt ?_) | (with_reducible refine s_gc ?_) | (with_reducible refine s_gnil ?_) | (with_reducible refine s_yes ?_) | (with_reducible refine s_raise ?_)
  | ((with_reducible refine' s_pow ?hc ?_); (case hc => exact ⟨by decide, by decide, by decide⟩)) | (with_reducible refine s_int ?_) | (with_reducible refine s_intB ?_) | (with_reducible refine s_strS ?_) | (with_reducible refine s_abs ?_) | (with_reducible refine s_max ?_) | (with_reducible refine s_min ?_) | (with_reducible refine s_gcd ?_)
  | (with_reducible refine s_chain ?_) | (with_reducible refine s_sl ?_) | (with_reducible refine s_noP ?_) | (with_reducible refine s_part ?_) | (with_reducible refine s_exI ?_) 
  | ((with_reducible refine' s_mulI ?hc ?_); (case hc => first | exact Or.inl (Or.inr ⟨by decide, by decide⟩) | exact Or.inl (Or.inl ⟨by decide, by decide⟩) | exact Or.inl (Or.inl ⟨by omega, by omega⟩) | exact Or.inl (Or.inr ⟨by omega, by omega⟩) | walk_at "umul"))
  | ((with_reducible refine' s_ixT ?hc ?hd ?_); (case hc => assumption); (case hd => rfl))
  | ((with_reducible refine' s_lenL ?hc ?_); (case hc => first | assumption | exact SqL.of (by assumption))) | ((with_reducible refine' s_lenT ?hc ?_); (case hc => first | assumption | exact SqT.of (by assumption)))
  | ((with_reducible refine' s_divP ?hc ?hd ?_); (case hc => first | decide | assumption | omega); (case hd => first | decide +kernel | assumption)))
local macro_rules | `(tactic| walk_at "us") => `(tactic| repeat walk_at "us2")
local macro_rules | `(tactic| walk_at "uj") => `(tactic| ((walk_at "us"); with_reducible refine s_J ?_))
local macro_rules | `(tactic| walk_at "ua") => `(tactic| ((walk_at "us"); repeat ((first | (refine s_iF ?_) | (refine s_iT ?_)); (walk_at "us"))))
local macro_rules | `(tactic| walk_at "ub") => `(tactic| walk_at "ua")
local macro_rules | `(tactic| walk_at "ux1") => `(tactic| first
  | walk_at "us2" | ((with_reducible refine' s_ixL ?hc ?hd ?_); (case hc => first | assumption | exact SqL.of (by assumption)); (case hd => rfl)) | ((with_reducible refine' s_ixT ?hc ?hd ?_); (case hc => exact SqT.of (by assumption)); (case hd => rfl))
  | ((with_reducible refine' s_intS ?hc ?hd ?_); (case hc => assumption); (case hd => assumption)) | ((with_reducible refine' s_lenS ?hc ?_); (case hc => assumption)))
local macro_rules | `(tactic| walk_at "ux") => `(tactic| repeat walk_at "ux1")
local macro_rules | `(tactic| walk_at "uy") => `(tactic| ((walk_at "ux"); repeat ((first | (refine s_iF ?_) | (refine s_iT ?_)); (walk_at "ux"))))
local macro_rules | `(tactic| walk_at "uz0") => `(tactic| first
  | (with_reducible refine s_seq ?_) | (with_reducible refine s_asg ?_) | (with_reducible refine s_gn ?_) | (with_reducible refine s_ret ?_) | (with_reducible refine s_drop ?_) | (with_reducible refine s_if ?_) | (with_reducible refine s_next ?_)
  | (with_reducible refine s_brk ?_) | (with_reducible refine s_cont ?_)
  | ((with_reducible refine' s_var ?hv ?_); (case hv => exact rfl)) | (with_reducible refine s_c ?_) | (with_reducible refine s_op ?_) | (with_reducible refine s_un ?_) | (with_reducible refine s_cb ?_) | (with_reducible refine s_call ?_)
  | (with_reducible refine s_cons ?_) | (with_reducible refine s_nil ?_) | (with_reducible refine s_test ?_) | (with_reducible refine s_tB ?_) | (with_reducible refine s_not ?_) | (with_reducible refine s_and ?_) | (with_reducible refine s_or ?_)
  | (with_reducible refine s_andV ?_) | (with_reducible refine s_orV ?_) | (with_reducible refine s_notV ?_) | (with_reducible refine s_ifE ?_) | (with_reducible refine s_bl ?_) | (with_reducible refine s_iT ?_) | (with_reducible refine s_iF ?_)
  | (with_reducible refine s_I0 ?_) | (with_reducible refine s_U ?_) | (with_reducible refine s_addI ?_) | (with_reducible refine s_eqI ?_) | (with_reducible refine s_eqS ?_) | (with_reducible refine s_eqB ?_) | (with_reducible refine s_neI ?_) | (with_reducible refine s_neS ?_) | (with_reducible refine s_neB ?_))
local macro_rules | `(tactic| walk_at "uz2") => `(tactic| first
  | walk_at "uz0" | (with_reducible refine s_dput ?_) | ((with_reducible refine' s_mod ?hc ?_); (case hc => first | decide | assumption | omega))
  | (with_reducible refine s_for ?_) | (with_reducible refine s_lc ?_) | (with_reducible refine s_itl ?_) | (with_reducible refine s_itt ?_) | (with_reducible refine s_its ?_) | (with_reducible refine s_itr ?_) | (with_reducible refine s_itr2 ?_) | (with_reducible refine s_disp ?_) | (with_reducible refine s_prn ?_) | (with_reducible refine s_prc ?_) | (with_reducible refine s_m1 ?_) | (with_reducible refine s_isS ?_) | (with_reducible refine s_um1 ?_) | (with_reducible refine s_isB ?_) | (with_reducible refine s_isn ?_) | (with_reducible refine s_notn ?_) | (with_reducible refine s_jd ?_) | (with_reducible refine s_jn ?_) | (with_reducible refine s_jc ?_) | (with_reducible refine s_fmt ?_) | (with_reducible refine s_gc ?_) | (with_reducible refine s_gnil ?_) | (with_reducible refine s_yes ?_) | (with_reducible refine s_raise ?_)
  | ((with_reducible refine' s_pow ?hc ?_); (case hc => exact ⟨by decide, by decide, by decide⟩)) | (with_reducible refine s_int ?_) | (with_reducible refine s_intB ?_) | (with_reducible refine s_strS ?_) | (with_reducible refine s_abs ?_) | (with_reducible refine s_max ?_) | (with_reducible refine s_min ?_) | (with_reducible refine s_gcd ?_)
  | (with_reducible refine s_chain ?_) | (with_reducible refine s_sl ?_) | (with_reducible refine s_noP ?_) | (with_reducible refine s_part ?_) | (with_reducible refine s_exI ?_) 
  | ((with_reducible refine' s_mulI ?hc ?_); (case hc => first | exact Or.inl (Or.inr ⟨by decide, by decide⟩) | exact Or.inl (Or.inl ⟨by decide, by decide⟩) | exact Or.inl (Or.inl ⟨by omega, by omega⟩) | exact Or.inl (Or.inr ⟨by omega, by omega⟩) | walk_at "umul"))
  | ((with_reducible refine' s_ixT ?hc ?hd ?_); (case hc => assumption); (case hd => rfl))
  | ((with_reducible refine' s_lenL ?hc ?_); (case hc => first | assumption | exact SqL.of (by assumption))) | ((with_reducible refine' s_lenT ?hc ?_); (case hc => first | assumption | exact SqT.of (by assumption)))
  | ((with_reducible refine' s_divP ?hc ?hd ?_); (case hc => first | decide | assumption | omega); (case hd => first | decide +kernel | assumption)))
local macro_rules | `(tactic| walk_at "uz1") => `(tactic| first
  | walk_at "uz2" | ((with_reducible refine' s_ixL ?hc ?hd ?_); (case hc => first | assumption | exact SqL.of (by assumption)); (case hd => rfl)) | ((with_reducible refine' s_ixT ?hc ?hd ?_); (case hc => exact SqT.of (by assumption)); (case hd => rfl))
  | ((with_reducible refine' s_intS ?hc ?hd ?_); (case hc => assumption); (case hd => assumption)) | ((with_reducible refine' s_lenS ?hc ?_); (case hc => assumption)))
local macro_rules | `(tactic| walk_at "uz") => `(tactic| ((repeat walk_at "uz1"); repeat ((first | (refine s_iF ?_) | (refine s_iT ?_)); (repeat walk_at "uz1"))))
local macro_rules | `(tactic| walk_at "umul") => `(tactic| exact Or.inr (mulB (by assumption) (by assumption)))
section
variable {P : Program} {w : World} {K : PySem.W.Frag} {mg : Str → Option Value} {base : Heap}
variable {cE cB cN : Addr}
theorem ok_l_right_texts (T : Tp P K mg cE cB cN)
    (c_l_odd_texts : Cal P w K mg base 2 "_law_odd_texts" P_l_odd_texts [] (spOddTexts))
    (c_l_odd_things : Cal P w K mg base 1 "_law_odd_things" P_l_odd_things [] (spOddThings K))
    (c_l_read_told : Cal P w K mg base 3 "_law_read_told" P_l_read_told [] (spReadTold K))
    (c_l_right_reading : Cal P w K mg base 4 "_law_right_reading" P_l_right_reading [] (spRightReading))
    (c_l_spoilt : Cal P w K mg base 3 "_law_spoilt" P_l_spoilt [] (spSpoilt))
    (c_l_text_of : Cal P w K mg base 1 "_law_text_of" P_l_text_of [] (spTextOf K))
    (c_write_ratio : Cal P w K mg base 1 "write_ratio" P_write_ratio [] (spTextOf K))
    {f : Addr} {fd : FuncData} {dvs : List V} (F : FunD K "_law_right_texts" "_law_right_texts" (defArgs s_l_right_texts) (defBody s_l_right_texts) (defScope s_l_right_texts) dvs [] f fd) : FnG P w K mg base 5 f fd P_l_right_texts (spRightTexts K) := by
  refine fng F sc_l_right_texts (by walk_at "ulen") (fun cdv A outer s H vs Q E hr0 hg0 h => ?_)
  have hr : Rm 4 (A.deeper (envOfC "_law_right_texts" (defScope s_l_right_texts) s.heap.objs.size f cdv)) := ⟨hr0, hg0⟩
  have nd : N_l_right_texts.Nodup := sc_l_right_texts.nd
  have po : PassesOwn (model P w) (cxOf (L2.CX P w) P w K mg base N_l_right_texts "_law_right_texts" (defScope s_l_right_texts) f cdv A outer s H E).A (cxOf (L2.CX P w) P w K mg base N_l_right_texts "_law_right_texts" (defScope s_l_right_texts) f cdv A outer s H E).env (cxOf (L2.CX P w) P w K mg base N_l_right_texts "_law_right_texts" (defScope s_l_right_texts) f cdv A outer s H E).xe := passes_of rfl
  obtain ⟨b, v, n, d, rfl, hb, ⟨p, rfl, hp⟩, L, k⟩ := h
  refine ⟨_, (pss_cons (ps_set (i := 2) nd rfl (Or.inl rfl) (pe_c (E := En) c_l_text_of (hr.mono (by decide)) paN (pa_cons (pv 1) pa_nil)))
    (pss_cons (ps_set (i := 3) nd rfl (Or.inl rfl) (pe_c (E := En) c_write_ratio (hr.mono (by decide)) paN (pa_cons (pv 1) pa_nil)))
    (pss_cons (ps_if (PW.pt (pw_or (pt_not (pt_val (pe_callB call_isi (by rfl) T.isinstance b_isinstance (pa_cons (pv 3) (pa_cons (pe_bltn (v := .ty "str") (by rfl) T.str b_str rfl) pa_nil))))) (pw_or1 (pt_cmpR (op_uNe hr.r.units) (pv 3) (pv 2) (nomark _))))) (pss_one (ps_ret pe_bl)) pss_nil)
    (pss_cons (ps_for po rfl (pi_list (pe_op op_uAdd (pe_c (E := En) c_l_odd_texts (hr.mono (by decide)) paN (pa_cons (pv 0) pa_nil)) (pe_lst (pa_cons (pv 2) (pa_cons (pe_c (E := En) c_l_spoilt (hr.mono (by decide)) paN (pa_cons (pv 0) (pa_cons (pv 2) pa_nil))) (pa_cons (pe_c (E := En) c_l_spoilt (hr.mono (by decide)) paN (pa_cons (pv 0) (pa_cons (pv 2) pa_nil))) pa_nil)))))) (pg_name (i := 4) nd rfl (Or.inl rfl))
    (pss_one (ps_if (pt_not (pt_val (pe_c (E := En) c_l_right_reading (hr.mono (by decide)) paN (pa_cons (pv 4) pa_nil)))) (pss_one (ps_ret pe_bl)) pss_nil)))
    (pss_cons (ps_for po rfl (pi_list (pe_c0 c_l_odd_things (hr.mono (by decide)) (E := En) paN)) (pg_name (i := 5) nd rfl (Or.inl rfl))
    (pss_cons (ps_set (i := 3) nd rfl (Or.inl rfl) (pe_c (E := En) c_l_read_told (hr.mono (by decide)) paN (pa_cons (pv 5) pa_nil)))
    (pss_one (ps_if (PW.pt (pw_or (pt_cmpR (op_uNe hr.r.units) (pe_ix ix_seq (pv 3) pe_int (fun _ _ => rfl)) pe_str (nomark _)) (pw_or1 (pt_cmpR (op_uNe hr.r.units) (pe_callB (call_uRepr hr) (by rfl) T.repr b_repr (pa_cons (pe_ix ix_seq (pv 3) pe_int (fun _ _ => rfl)) pa_nil)) (pe_callB (call_uRepr hr) (by rfl) T.repr b_repr (pa_cons (pv 5) pa_nil)) (nomark _))))) (pss_one (ps_ret pe_bl)) pss_nil))))
    (pss_one (ps_ret pe_bl))))))), ?_⟩
  walk_at "uk"
  walk_at "ux"
  refine ⟨.ref p, n, d, rfl, ⟨p, rfl, hp⟩, L, fun tl => ?_⟩
  walk_at "ux"
  refine ⟨.ref p, n, d, rfl, ⟨p, rfl, hp⟩, L, fun _ => ?_⟩
  generalize textOf n d = tx at tl
  walk_at "ux"
  refine s_isStr (.str tx) ?_
  walk_at "uz"
  rw [decide_eq_true rfl]
  walk_at "uz"
  refine ⟨b, rfl, hb, fun q1 zs H1 hz hl k1 hq1 => ?_⟩
  walk_at "uy"
  refine ⟨b, tx, rfl, k1.b1, tl, fun s1 H2 l1 k2 => ?_⟩
  walk_at "uy"
  refine ⟨b, tx, rfl, k2.b1, tl, fun s2 H3 l2 k3 => ?_⟩
  walk_at "uy"
  refine s_szN (Nat.le_of_ble_eq_true rfl) fun q2 n2 => ?_
  have k4 := k3.tr ((exN (o := .lst [.str tx, .str s1, .str s2]) n2).kb k3.b1)
  have f2 : upd H3 q2 (.lst [.str tx, .str s1, .str s2]) q2 = some _ := upd_same
  have e4 := exN (o := .lst [.str tx, .str s1, .str s2]) n2
  have f1 := e4 _ _ ((k2.tr k3).at hq1 fun _ z => by cases z)
  have k5 := (k1.tr k2).tr k4
  clear e4 n2
  generalize upd H3 q2 (.lst [.str tx, .str s1, .str s2]) = H4 at k4 f2 f1 k5
  refine s_addL f1 f2 (by rw [List.length_map]; show _ + 3 ≤ 16777216; omega) fun q3 n3 => ?_
  have k6 := k5.tr ((exN (o := .lst (zs.map V.str ++ [.str tx, .str s1, .str s2])) n3).kb k5.b1)
  have f3 : upd H4 q3 (.lst (zs.map V.str ++ [.str tx, .str s1, .str s2])) q3 = some _ := upd_same
  generalize upd H4 q3 (.lst (zs.map V.str ++ [.str tx, .str s1, .str s2])) = H5 at k6 f3
  have all : ∀ x ∈ zs.map V.str ++ [.str tx, .str s1, .str s2], ∃ z : Str, x = .str z ∧ z.length ≤ 10000 := by
    intro x hx
    rcases List.mem_append.mp hx with hx | hx
    · obtain ⟨z, hm, rfl⟩ := List.mem_map.mp hx
      exact ⟨z, rfl, by have := hz z hm; omega⟩
    · simp only [List.mem_cons, List.not_mem_nil, or_false] at hx
      rcases hx with rfl | rfl | rfl
      · exact ⟨_, rfl, by omega⟩
      · exact ⟨_, rfl, by omega⟩
      · exact ⟨_, rfl, by omega⟩
  generalize zs.map V.str ++ [.str tx, .str s1, .str s2] = xs at f3 all
  refine loopL (xs := xs) (fun i σ' H' => Ex H5 H' ∧ ∃ o, σ' = (((L2.start N_l_right_texts [.ref b, .ref p]).set 2 (some (.str tx))).set 3 (some (.str tx))).set 4 o) ⟨exR _, none, rfl⟩ ?_ ?_ ?_
  · rintro i σ' H' ⟨e, _⟩
    exact .of (e _ _ f3)
  · rintro σ' H' ⟨e, o, rfl⟩
    have k7 := k6.tr (e.kb k6.b1)
    walk_at "uy"
    refine ⟨rfl, fun q4 ys H6 e6 f4 hy => ?_⟩
    have k8 := k7.tr (e6.kb k7.b1)
    refine loopL (xs := ys) (fun i σ' H' => Ex H6 H' ∧ ∃ o1 o2 o3, σ' = ((((L2.start N_l_right_texts [.ref b, .ref p]).set 2 (some (.str tx))).set 3 o1).set 4 o2).set 5 o3) ⟨exR _, _, o, none, rfl⟩ ?_ ?_ ?_
    · rintro i σ' H' ⟨e, _⟩
      exact .of (e _ _ f4)
    · rintro σ' H' ⟨e, o1, o2, o3, rfl⟩
      walk_at "uy"
      exact k _ (k8.tr (e.kb k8.b1))
    · rintro i x σ' H7 hx ⟨e7, o1, o2, o3, rfl⟩
      obtain ⟨ht, r, hr2⟩ := thing_ex e7 (hy x (List.mem_of_getElem? hx))
      walk_at "uy"
      refine ⟨x, rfl, .inr ⟨ht, fun q H8 e8 hq => ?_⟩⟩
      walk_at "uy"
      obtain ⟨_, r8, hr8⟩ := thing_ex e8 ⟨ht, r, hr2⟩
      walk_at "uy"
      refine ⟨x, r8, rfl, hr8, ?_⟩
      walk_at "uy"
      refine ⟨x, r8, rfl, hr8, ?_⟩
      walk_at "uy"
      rw [decide_eq_true rfl]
      walk_at "uy"
      exact ⟨e7.tr e8, _, _, _, rfl⟩
  · rintro i x σ' H' hx ⟨e, o, rfl⟩
    obtain ⟨z, rfl, hzl⟩ := all x (List.mem_of_getElem? hx)
    walk_at "uy"
    refine ⟨z, rfl, hzl, fun H7 e7 => ?_⟩
    walk_at "uy"
    exact ⟨e.tr e7, _, rfl⟩
end
end Lw

set_option Elab.async false
set_option linter.all false
set_option maxRecDepth 100000
set_option maxHeartbeats 4000000
namespace Lw
open PySem PySem.Spec L2 Uv
open PyProof.Rows hiding St
local macro_rules | `(tactic| walk_at "umul") => `(tactic| fail)
local macro_rules | `(tactic| walk_at "us1") => `(tactic| first
  | (with_reducible refine s_seq ?_) | (with_reducible refine s_asg ?_) | (with_reducible refine s_gn ?_) | (with_reducible refine s_ret ?_) | (with_reducible refine s_drop ?_) | (with_reducible refine s_if ?_) | (with_reducible refine s_next ?_)
  | (with_reducible refine s_brk ?_) | (with_reducible refine s_cont ?_)
  | ((with_reducible refine' s_var ?hv ?_); (case hv => exact rfl)) | (with_reducible refine s_c ?_) | (with_reducible refine s_op ?_) | (with_reducible refine s_un ?_) | (with_reducible refine s_cb ?_) | (with_reducible refine s_call ?_)
  | (with_reducible refine s_cons ?_) | (with_reducible refine s_nil ?_) | (with_reducible refine s_test ?_) | (with_reducible refine s_tB ?_) | (with_reducible refine s_not ?_) | (with_reducible refine s_and ?_) | (with_reducible refine s_or ?_)
  | (with_reducible refine s_andV ?_) | (with_reducible refine s_orV ?_) | (with_reducible refine s_notV ?_) | (with_reducible refine s_ifE ?_) | (with_reducible refine s_bl ?_) | (with_reducible refine s_iT ?_) | (with_reducible refine s_iF ?_)
  | (with_reducible refine s_I0 ?_) | (with_reducible refine s_U ?_) | (with_reducible refine s_addI ?_) | (with_reducible refine s_eqI ?_) | (with_reducible refine s_eqS ?_) | (with_reducible refine s_eqB ?_) | (with_reducible refine s_neI ?_) | (with_reducible refine s_neS ?_) | (with_reducible refine s_neB ?_)
  | (with_reducible refine s_tupE ?_) | (with_reducible refine s_lstE ?_))
local macro_rules | `(tactic| walk_at "us") => `(tactic| repeat walk_at "us1")
local macro_rules | `(tactic| walk_at "ulen") => `(tactic| (intro vs H Q E h; repeat' (first | (obtain ⟨e, _⟩ := h; subst e; rfl) | (subst h; rfl) | (refine Or.elim h (fun h => ?_) (fun h => ?_)) | (obtain ⟨_, h⟩ := h))))
local macro_rules | `(tactic| walk_at "uk") => `(tactic| (try dsimp only [cxOf, Cx.suite, Cx.tr]))
local macro_rules | `(tactic| walk_at "us2") => `(tactic| first
  | walk_at "us1" | (with_reducible refine s_dput ?_) | ((with_reducible refine' s_mod ?hc ?_); (case hc => first | decide | assumption | omega))
  | (with_reducible refine s_for ?_) | (with_reducible refine s_lc ?_) | (with_reducible refine s_itl ?_) | (with_reducible refine s_itt ?_) | (with_reducible refine s_its ?_) | (with_reducible refine s_itr ?_) | (with_reducible refine s_itr2 ?_) | (with_reducible refine s_disp ?_) | (with_reducible refine s_prn ?_) | (with_reducible refine s_prc ?_) | (with_reducible refine s_m1 ?_) | (with_reducible refine s_isS ?_) | (with_reducible refine s_um1 ?_) | (with_reducible refine s_isB ?_) | (with_reducible refine s_isn ?_) | (with_reducible refine s_notn ?_) | (with_reducible refine s_jd ?_) | (with_reducible refine s_jn ?_) | (with_reducible refine s_jc ?_) | (with_reducible refine s_fmt ?_) | (with_reducible refine s_gc ?_) | (with_reducible refine s_gnil ?_) | (with_reducible refine s_yes ?_) | (with_reducible refine s_raise ?_)
  | ((with_reducible refine' s_pow ?hc ?_); (case hc => exact ⟨by decide, by decide, by decide⟩)) | (with_reducible refine s_int ?_) | (with_reducible refine s_intB ?_) | (with_reducible refine s_strS ?_) | (with_reducible refine s_abs ?_) | (with_reducible refine s_max ?_) | (with_reducible refine s_min ?_) | (with_reducible refine s_gcd ?_)
  | (with_reducible refine s_chain ?_) | (with_reducible refine s_sl ?_) | (with_reducible refine s_noP ?_) | (with_reducible refine s_part ?_) | (with_reducible refine s_exI ?_) 
  | ((with_reducible refine' s_mulI ?hc ?_); (case hc => first | exact Or.inl (Or.inr ⟨by decide, by decide⟩) | exact Or.inl (Or.inl ⟨by decide, by decide⟩) | exact Or.inl (Or.inl ⟨by omega, by omega⟩) | exact Or.inl (Or.inr ⟨by omega, by omega⟩) | walk_at "umul"))
  | ((with_reducible refine' s_ixT ?hc ?hd ?_); (case hc => assumption); (case hd => rfl))
  | ((with_reducible refine' s_lenL ?hc ?_); (case hc => first | assumption | exact SqL.of (by assumption))) | ((with_reducible refine' s_lenT ?hc ?_); (case hc => first | assumption | exact SqT.of (by assumption)))
  | ((with_reducible refine' s_divP ?hc ?hd ?_); (case hc => first | decide | assumption | omega); (case hd => first | decide +kernel | assumption)))
local macro_rules | `(tactic| walk_at "us") => `(tactic| repeat walk_at "us2")
local macro_rules | `(tactic| walk_at "uj") => `(tactic| ((walk_at "us"); with_reducible refine s_J ?_))
local macro_rules | `(tactic| walk_at "ua") => `(tactic| ((walk_at "us"); repeat ((first | (refine s_iF ?_) | (refine s_iT ?_)); (walk_at "us"))))
local macro_rules | `(tactic| walk_at "ub") => `(tactic| walk_at "ua")
local macro_rules | `(tactic| walk_at "ux1") => `(tactic| first
  | walk_at "us2" | ((with_reducible refine' s_ixL ?hc ?hd ?_); (case hc => first | assumption | exact SqL.of (by assumption)); (case hd => rfl)) | ((with_reducible refine' s_ixT ?hc ?hd ?_); (case hc => exact SqT.of (by assumption)); (case hd => rfl))
  | ((with_reducible refine' s_intS ?hc ?hd ?_); (case hc => assumption); (case hd => assumption)) | ((with_reducible refine' s_lenS ?hc ?_); (case hc => assumption)))
local macro_rules | `(tactic| walk_at "ux") => `(tactic| repeat walk_at "ux1")
local macro_rules | `(tactic| walk_at "uy") => `(tactic| ((walk_at "ux"); repeat ((first | (refine s_iF ?_) | (refine s_iT ?_)); (walk_at "ux"))))
local macro_rules | `(tactic| walk_at "uz0") => `(tactic| first
  | (with_reducible refine s_seq ?_) | (with_reducible refine s_asg ?_) | (with_reducible refine s_gn ?_) | (with_reducible refine s_ret ?_) | (with_reducible refine s_drop ?_) | (with_reducible refine s_if ?_) | (with_reducible refine s_next ?_)
  | (with_reducible refine s_brk ?_) | (with_reducible refine s_cont ?_)
  | ((with_reducible refine' s_var ?hv ?_); (case hv => exact rfl)) | (with_reducible refine s_c ?_) | (with_reducible refine s_op ?_) | (with_reducible refine s_un ?_) | (with_reducible refine s_cb ?_) | (with_reducible refine s_call ?_)
  | (with_reducible refine s_cons ?_) | (with_reducible refine s_nil ?_) | (with_reducible refine s_test ?_) | (with_reducible refine s_tB ?_) | (with_reducible refine s_not ?_) | (with_reducible refine s_and ?_) | (with_reducible refine s_or ?_)
  | (with_reducible refine s_andV ?_) | (with_reducible refine s_orV ?_) | (with_reducible refine s_notV ?_) | (with_reducible refine s_ifE ?_) | (with_reducible refine s_bl ?_) | (with_reducible refine s_iT ?_) | (with_reducible refine s_iF ?_)
  | (with_reducible refine s_I0 ?_) | (with_reducible refine s_U ?_) | (with_reducible refine s_addI ?_) | (with_reducible refine s_eqI ?_) | (with_reducible refine s_eqS ?_) | (with_reducible refine s_eqB ?_) | (with_reducible refine s_neI ?_) | (with_reducible refine s_neS ?_) | (with_reducible refine s_neB ?_))
local macro_rules | `(tactic| walk_at "uz2") => `(tactic| first
  | walk_at "uz0" | (with_reducible refine s_dput ?_) | ((with_reducible refine' s_mod ?hc ?_); (case hc => first | decide | assumption | omega))
  | (with_reducible refine s_for ?_) | (with_reducible refine s_lc ?_) | (with_reducible refine s_itl ?_) | (with_reducible refine s_itt ?_) | (with_reducible refine s_its ?_) | (with_reducible refine s_itr ?_) | (with_reducible refine s_itr2 ?_) | (with_reducible refine s_disp ?_) | (with_reducible refine s_prn ?_) | (with_reducible refine s_prc ?_) | (with_reducible refine s_m1 ?_) | (with_reducible refine s_isS ?_) | (with_reducible refine s_um1 ?_) | (with_reducible refine s_isB ?_) | (with_reducible refine s_isn ?_) | (with_reducible refine s_notn ?_) | (with_reducible refine s_jd ?_) | (with_reducible refine s_jn ?_) | (with_reducible refine s_jc ?_) | (with_reducible refine s_fmt ?_) | (with_reducible refine s_gc ?_) | (with_reducible refine s_gnil ?_) | (with_reducible refine s_yes ?_) | (with_reducible refine s_raise ?_)
  | ((with_reducible refine' s_pow ?hc ?_); (case hc => exact ⟨by decide, by decide, by decide⟩)) | (with_reducible refine s_int ?_) | (with_reducible refine s_intB ?_) | (with_reducible refine s_strS ?_) | (with_reducible refine s_abs ?_) | (with_reducible refine s_max ?_) | (with_reducible refine s_min ?_) | (with_reducible refine s_gcd ?_)
  | (with_reducible refine s_chain ?_) | (with_reducible refine s_sl ?_) | (with_reducible refine s_noP ?_) | (with_reducible refine s_part ?_) | (with_reducible refine s_exI ?_) 
  | ((with_reducible refine' s_mulI ?hc ?_); (case hc => first | exact Or.inl (Or.inr ⟨by decide, by decide⟩) | exact Or.inl (Or.inl ⟨by decide, by decide⟩) | exact Or.inl (Or.inl ⟨by omega, by omega⟩) | exact Or.inl (Or.inr ⟨by omega, by omega⟩) | walk_at "umul"))
  | ((with_reducible refine' s_ixT ?hc ?hd ?_); (case hc => assumption); (case hd => rfl))
  | ((with_reducible refine' s_lenL ?hc ?_); (case hc => first | assumption | exact SqL.of (by assumption))) | ((with_reducible refine' s_lenT ?hc ?_); (case hc => first | assumption | exact SqT.of (by assumption)))
  | ((with_reducible refine' s_divP ?hc ?hd ?_); (case hc => first | decide | assumption | omega); (case hd => first | decide +kernel | assumption)))
local macro_rules | `(tactic| walk_at "uz1") => `(tactic| first
  | walk_at "uz2" | ((with_reducible refine' s_ixL ?hc ?hd ?_); (case hc => first | assumption | exact SqL.of (by assumption)); (case hd => rfl)) | ((with_reducible refine' s_ixT ?hc ?hd ?_); (case hc => exact SqT.of (by assumption)); (case hd => rfl))
  | ((with_reducible refine' s_intS ?hc ?hd ?_); (case hc => assumption); (case hd => assumption)) | ((with_reducible refine' s_lenS ?hc ?_); (case hc => assumption)))
local macro_rules | `(tactic| walk_at "uz") => `(tactic| ((repeat walk_at "uz1"); repeat ((first | (refine s_iF ?_) | (refine s_iT ?_)); (repeat walk_at "uz1"))))
local macro_rules | `(tactic| walk_at "umul") => `(tactic| exact Or.inr (mulB (by assumption) (by assumption)))
theorem low_rat_d {n d : Int} (L : Low n d) : isRatD (.tuple [.int n, .int d]) = true := by
  show (decide (1 ≤ d) && decide (Int.gcd n d = 1)) = true
  rw [decide_eq_true (show 1 ≤ d by have := L.pos; omega), decide_eq_true L.one]
  rfl
theorem gcd_dec (n d : Int) : decide ((Int.gcd n d : Int) = 1) = decide (Int.gcd n d = 1) := by
  by_cases w : Int.gcd n d = 1 <;> simp [w] <;> omega
section
variable {P : Program} {w : World} {K : PySem.W.Frag} {mg : Str → Option Value} {base : Heap}
variable {cE cB cN : Addr}
theorem ok_l_right_kinds (T : Tp P K mg cE cB cN)
    (c_is_ratio : Cal P w K mg base 2 "is_ratio" P_is_ratio [] (spIsRatio K))
    (c_l_gcd : Cal P w K mg base 1 "_law_gcd" P_l_gcd [] (spGcd))
    {f : Addr} {fd : FuncData} {dvs : List V} (F : FunD K "_law_right_kinds" "_law_right_kinds" (defArgs s_l_right_kinds) (defBody s_l_right_kinds) (defScope s_l_right_kinds) dvs [] f fd) : FnG P w K mg base 3 f fd P_l_right_kinds (spRightKinds K) := by
  refine fng F sc_l_right_kinds (by walk_at "ulen") (fun cdv A outer s H vs Q E hr0 hg0 h => ?_)
  have hr : Rm 2 (A.deeper (envOfC "_law_right_kinds" (defScope s_l_right_kinds) s.heap.objs.size f cdv)) := ⟨hr0, hg0⟩
  have nd : N_l_right_kinds.Nodup := sc_l_right_kinds.nd
  have po : PassesOwn (model P w) (cxOf (L2.CX P w) P w K mg base N_l_right_kinds "_law_right_kinds" (defScope s_l_right_kinds) f cdv A outer s H E).A (cxOf (L2.CX P w) P w K mg base N_l_right_kinds "_law_right_kinds" (defScope s_l_right_kinds) f cdv A outer s H E).env (cxOf (L2.CX P w) P w K mg base N_l_right_kinds "_law_right_kinds" (defScope s_l_right_kinds) f cdv A outer s H E).xe := passes_of rfl
  obtain ⟨n, d, v, w, n1, d1, n2, d2, rfl, ⟨p1, rfl, h1⟩, ⟨p2, rfl, h2⟩, LA, LB, k⟩ := h
  refine ⟨_, (pss_cons (ps_set (i := 4) nd rfl (Or.inl rfl) (pe_c (E := En) c_is_ratio (hr.mono (by decide)) paN (pa_cons (pe_tup (pa_cons (pv 0) (pa_cons (pv 1) pa_nil))) pa_nil)))
    (pss_consJ (ps_if (PW.pt (pw_or (pt_not (pt_val (pe_callB call_isi (by rfl) T.isinstance b_isinstance (pa_cons (pv 4) (pa_cons (pe_bltn (v := .ty "bool") (by rfl) T.bool b_bool rfl) pa_nil))))) (pw_or1 (pt_cmpR (op_uNe hr.r.units) (pv 4) (pe_and (pe_cmpR op_ge (pv 1) pe_int (nomark _)) (pe_one (pe_cmpR (op_uEq hr.r.units) (pe_c (E := En) c_l_gcd (hr.mono (by decide)) paN (pa_cons (pv 0) (pa_cons (pv 1) pa_nil))) pe_int (nomark _)))) (nomark _))))) (pss_one (ps_ret pe_bl)) pss_nil)
    (pss_cons (ps_if (PW.pt (pw_or (pt_cmpR op_uNotB (pe_c (E := En) c_is_ratio (hr.mono (by decide)) paN (pa_cons (pv 2) pa_nil)) pe_bl (nomark _)) (pw_or1 (pt_cmpR op_uNotB (pe_c (E := En) c_is_ratio (hr.mono (by decide)) paN (pa_cons (pv 3) pa_nil)) pe_bl (nomark _))))) (pss_one (ps_ret pe_bl)) pss_nil)
    (pss_cons (ps_for po rfl (pi_list (pe_lst (pa_cons (pe_tup (pa_cons pe_int (pa_cons pe_int pa_nil))) (pa_cons (pe_tup (pa_cons pe_int (pa_cons pe_int pa_nil))) (pa_cons (pe_tup (pa_cons (pe_un un_neg pe_int) (pa_cons pe_int pa_nil))) (pa_cons (pe_tup (pa_cons pe_int (pa_cons pe_int pa_nil))) (pa_cons (pe_tup (pa_cons pe_int (pa_cons pe_int pa_nil))) pa_nil))))))) (pg_name (i := 5) nd rfl (Or.inl rfl))
    (pss_one (ps_if (pt_cmpR op_uNotB (pe_c (E := En) c_is_ratio (hr.mono (by decide)) paN (pa_cons (pv 5) pa_nil)) pe_bl (nomark _)) (pss_one (ps_ret pe_bl)) pss_nil)))
    (pss_cons (ps_set (i := 6) nd rfl (Or.inl rfl) (pe_lst (pa_cons (pe_tup (pa_cons pe_int (pa_cons pe_int pa_nil))) (pa_cons (pe_tup (pa_cons pe_int (pa_cons pe_int pa_nil))) (pa_cons (pe_tup (pa_cons pe_int (pa_cons pe_int pa_nil))) (pa_cons (pe_tup (pa_cons pe_int (pa_cons pe_int pa_nil))) (pa_cons (pe_tup (pa_cons pe_int (pa_cons (pe_un un_neg pe_int) pa_nil))) (pa_cons (pe_tup (pa_cons pe_int (pa_cons (pe_un un_neg pe_int) pa_nil))) (pa_cons (pe_tup (pa_cons pe_bl (pa_cons pe_int pa_nil))) (pa_cons (pe_tup (pa_cons pe_int (pa_cons pe_bl pa_nil))) (pa_cons (pe_tup (pa_cons pe_bl (pa_cons pe_bl pa_nil))) (pa_cons (pe_lst (pa_cons pe_int (pa_cons pe_int pa_nil))) (pa_cons (pe_callTy call_uList (by rfl) T.list b_list (pa_cons (pv 2) pa_nil)) (pa_cons (pe_tup (pa_cons pe_int pa_nil)) (pa_cons (pe_tup pa_nil) pa_nil)))))))))))))))
    (pss_cons (ps_set (i := 6) nd rfl (Or.inl rfl) (pe_op op_uAdd (pv 6) (pe_lst (pa_cons (pe_tup (pa_cons pe_int (pa_cons pe_int (pa_cons pe_int pa_nil)))) (pa_cons pe_str (pa_cons pe_str (pa_cons pe_int (pa_cons pe_int (pa_cons pe_non (pa_cons pe_bl (pa_cons (pe_tup (pa_cons pe_str (pa_cons pe_str pa_nil))) (pa_cons (pe_tup (pa_cons pe_int (pa_cons pe_str pa_nil))) (pa_cons (pe_tup (pa_cons (pe_tup (pa_cons pe_int (pa_cons pe_int pa_nil))) (pa_cons pe_int pa_nil))) (pa_cons (pe_tup (pa_cons pe_int (pa_cons pe_non pa_nil))) (pa_cons (pe_tup (pa_cons pe_non (pa_cons pe_int pa_nil))) (pa_cons (pe_tup (pa_cons (pe_lst (pa_cons pe_int pa_nil)) (pa_cons (pe_lst (pa_cons pe_int pa_nil)) pa_nil))) pa_nil))))))))))))))))
    (pss_cons (ps_for po rfl (pi_list (pv 6)) (pg_name (i := 5) nd rfl (Or.inl rfl))
    (pss_one (ps_if (pt_cmpR op_uNotB (pe_c (E := En) c_is_ratio (hr.mono (by decide)) paN (pa_cons (pv 5) pa_nil)) pe_bl (nomark _)) (pss_one (ps_ret pe_bl)) pss_nil)))
    (pss_one (ps_ret pe_bl))))))))), ?_⟩
  walk_at "uk"
  walk_at "ux"
  refine s_szN (Nat.le_of_ble_eq_true rfl) fun p n0 => ?_
  have e1 := exN (o := .tup [.int n, .int d]) n0
  have f1 : upd H p (.tup [.int n, .int d]) p = _ := upd_same
  generalize upd H p (.tup [.int n, .int d]) = H1 at e1 f1
  walk_at "ux"
  refine ⟨.ref p, _, rfl, .tup (.of f1) (.cons (.int n) (.cons (.int d) .nil)), ?_⟩
  walk_at "uj"
  refine s_seqJ (fun σ' H' => H1 = H' ∧ σ' = (L2.start N_l_right_kinds [.int n, .int d, .ref p1, .ref p2]).set 4 (some (.bl (isRatD (.tuple [.int n, .int d]))))) ?_ (fun R hR => ?_)
  · rintro σ' _ ⟨rfl, rfl⟩
    have g1 := Ex.st h1 e1
    have g2 := Ex.st h2 e1
    walk_at "ux"
    refine ⟨.ref p1, _, rfl, .tup g1 (.cons (.int n1) (.cons (.int d1) .nil)), ?_⟩
    rw [low_rat_d LA]
    walk_at "uy"
    refine ⟨.ref p2, _, rfl, .tup g2 (.cons (.int n2) (.cons (.int d2) .nil)), ?_⟩
    rw [low_rat_d LB]
    walk_at "uz"
    refine s_dl (K := K) fun q vs H2 e2 hq dvs => ?_
    have i2 := e1.tr e2
    refine loopL (xs := vs) (fun i σ' H' => H2 = H' ∧ ∃ o, σ' = ((L2.start N_l_right_kinds [.int n, .int d, .ref p1, .ref p2]).set 4 (some (.bl (isRatD (.tuple [.int n, .int d]))))).set 5 o) ⟨rfl, none, rfl⟩ ?_ ?_ ?_
    · rintro i σ' _ ⟨rfl, _⟩
      exact .of hq
    · rintro σ' _ ⟨rfl, o, rfl⟩
      walk_at "uz"
      have ins : DEc K (((L2.start N_l_right_kinds [.int n, .int d, .ref p1, .ref p2]).set 4 (some (.bl (isRatD (.tuple [.int n, .int d]))))).set 5 o) H2 (tCB (uList K) (tCons (tVar 2) tNil)) (.list [.int n1, .int d1]) := de_listT rfl (Ex.st g1 e2) (.cons (.int n1) (.cons (.int d1) .nil))
      refine s_dl (K := K) fun q3 vs3 H3 e3 hq3 dvs3 => ?_
      walk_at "uz"
      refine s_dl (K := K) fun q4 vs4 H4 e4 hq4 dvs4 => ?_
      have l3 := dpa_length dvs3
      have l4 := dpa_length dvs4
      refine s_addL (e4 _ _ hq3) hq4 (by rw [l3, l4]; exact Nat.le_of_ble_eq_true rfl) fun q5 n5 => ?_
      have dv5 := dpa_app (dpa_ex e4 _ _ dvs3) dvs4
      have dv6 := dpa_ex (exN (o := .lst (vs3 ++ vs4)) n5) _ _ dv5
      have e6 := ((i2.tr e3).tr e4).tr (exN (o := .lst (vs3 ++ vs4)) n5)
      have f6 : upd H4 q5 (.lst (vs3 ++ vs4)) q5 = some (.lst (vs3 ++ vs4)) := upd_same
      clear dv5
      generalize upd H4 q5 (.lst (vs3 ++ vs4)) = H6 at dv6 e6 f6
      walk_at "uz"
      refine loopL (xs := vs3 ++ vs4) (fun i σ' H' => H6 = H' ∧ ∃ o, σ' = (((L2.start N_l_right_kinds [.int n, .int d, .ref p1, .ref p2]).set 4 (some (.bl (isRatD (.tuple [.int n, .int d]))))).set 5 o).set 6 (some (.ref q5))) ⟨rfl, o, rfl⟩ ?_ ?_ ?_
      · rintro i σ' _ ⟨rfl, _⟩
        exact .of f6
      · rintro σ' _ ⟨rfl, o, rfl⟩
        walk_at "uz"
        exact k _ e6
      · rintro i x σ' _ hx ⟨rfl, o, rfl⟩
        obtain ⟨dd, _, hm, hd⟩ := dpa_get dv6 hx
        walk_at "uz"
        refine ⟨x, dd, rfl, hd, ?_⟩
        have hr2 : isRatD dd = false := by
          clear hd
          simp only [List.cons_append, List.nil_append, List.mem_cons, List.not_mem_nil, or_false] at hm
          rcases hm with rfl | rfl | rfl | rfl | rfl | rfl | rfl | rfl | rfl | rfl | rfl | rfl | rfl | rfl | rfl | rfl | rfl | rfl | rfl | rfl | rfl | rfl | rfl | rfl | rfl | rfl <;> first | rfl | decide
        rw [hr2]
        walk_at "uz"
        exact ⟨rfl, _, rfl⟩
    · rintro i x σ' _ hx ⟨rfl, o, rfl⟩
      obtain ⟨dd, _, hm, hd⟩ := dpa_get dvs hx
      walk_at "ux"
      refine ⟨x, dd, rfl, hd, ?_⟩
      have hr2 : isRatD dd = true := by
        clear hd
        simp only [List.mem_cons, List.not_mem_nil, or_false] at hm
        rcases hm with rfl | rfl | rfl | rfl | rfl <;> decide
      rw [hr2]
      walk_at "uy"
      exact ⟨rfl, _, rfl⟩
  · walk_at "ux"
    refine s_isBool (.bl _) ?_
    walk_at "uy"
    refine s_itB (fun q1 => ?_) (fun q1 => ?_)
    · walk_at "ux"
      refine ⟨n, d, rfl, ?_⟩
      walk_at "ux"
      rw [show isRatD (.tuple [.int n, .int d]) = (decide (1 ≤ d) && decide (Int.gcd n d = 1)) from rfl, q1, Bool.true_and, gcd_dec, decide_eq_true rfl]
      walk_at "uy"
      exact hR _ _ ⟨rfl, by rw [show isRatD (.tuple [.int n, .int d]) = (decide (1 ≤ d) && decide (Int.gcd n d = 1)) from rfl, q1, Bool.true_and]⟩
    · walk_at "ux"
      rw [show isRatD (.tuple [.int n, .int d]) = (decide (1 ≤ d) && decide (Int.gcd n d = 1)) from rfl, q1, Bool.false_and]
      walk_at "uy"
      exact hR _ _ ⟨rfl, by rw [show isRatD (.tuple [.int n, .int d]) = (decide (1 ≤ d) && decide (Int.gcd n d = 1)) from rfl, q1, Bool.false_and]⟩
end
end Lw

set_option Elab.async false
set_option linter.all false
set_option maxRecDepth 100000
set_option maxHeartbeats 4000000
namespace Lw
open PySem PySem.Spec L2 Uv
open PyProof.Rows hiding St
local macro_rules | `(tactic| walk_at "umul") => `(tactic| fail)
local macro_rules | `(tactic| walk_at "us1") => `(tactic| first
  | (with_reducible refine s_seq ?_) | (with_reducible refine s_asg ?_) | (with_reducible refine s_gn ?_) | (with_reducible refine s_ret ?_) | (with_reducible refine s_drop ?_) | (with_reducible refine s_if ?_) | (with_reducible refine s_next ?_)
  | (with_reducible refine s_brk ?_) | (with_reducible refine s_cont ?_)
  | ((with_reducible refine' s_var ?hv ?_); (case hv => exact rfl)) | (with_reducible refine s_c ?_) | (with_reducible refine s_op ?_) | (with_reducible refine s_un ?_) | (with_reducible refine s_cb ?_) | (with_reducible refine s_call ?_)
  | (with_reducible refine s_cons ?_) | (with_reducible refine s_nil ?_) | (with_reducible refine s_test ?_) | (with_reducible refine s_tB ?_) | (with_reducible refine s_not ?_) | (with_reducible refine s_and ?_) | (with_reducible refine s_or ?_)
  | (with_reducible refine s_andV ?_) | (with_reducible refine s_orV ?_) | (with_reducible refine s_notV ?_) | (with_reducible refine s_ifE ?_) | (with_reducible refine s_bl ?_) | (with_reducible refine s_iT ?_) | (with_reducible refine s_iF ?_)
  | (with_reducible refine s_I0 ?_) | (with_reducible refine s_U ?_) | (with_reducible refine s_addI ?_) | (with_reducible refine s_eqI ?_) | (with_reducible refine s_eqS ?_) | (with_reducible refine s_eqB ?_) | (with_reducible refine s_neI ?_) | (with_reducible refine s_neS ?_) | (with_reducible refine s_neB ?_)
  | (with_reducible refine s_tupE ?_) | (with_reducible refine s_lstE ?_))
local macro_rules | `(tactic| walk_at "us") => `(tactic| repeat walk_at "us1")
local macro_rules | `(tactic| walk_at "ulen") => `(tactic| (intro vs H Q E h; repeat' (first | (obtain ⟨e, _⟩ := h; subst e; rfl) | (subst h; rfl) | (refine Or.elim h (fun h => ?_) (fun h => ?_)) | (obtain ⟨_, h⟩ := h))))
local macro_rules | `(tactic| walk_at "uk") => `(tactic| (try dsimp only [cxOf, Cx.suite, Cx.tr]))
local macro_rules | `(tactic| walk_at "us2") => `(tactic| first
  | walk_at "us1" | (with_reducible refine s_dput ?_) | ((with_reducible refine' s_mod ?hc ?_); (case hc => first | decide | assumption | omega))
  | (with_reducible refine s_for ?_) | (with_reducible refine s_lc ?_) | (with_reducible refine s_itl ?_) | (with_reducible refine s_itt ?_) | (with_reducible refine s_its ?_) | (with_reducible refine s_itr ?_) | (with_reducible refine s_itr2 ?_) | (with_reducible refine s_disp ?_) | (with_reducible refine s_prn ?_) | (with_reducible refine s_prc ?_) | (with_reducible refine s_m1 ?_) | (with_reducible refine s_isS ?_) | (with_reducible refine s_um1 ?_) | (with_reducible refine s_isB ?_) | (with_reducible refine s_isn ?_) | (with_reducible refine s_notn ?_) | (with_reducible refine s_jd ?_) | (with_reducible refine s_jn ?_) | (with_reducible refine s_jc ?_) | (with_reducible refine s_fmt ?_) | (with_reducible refine s_gc ?_) | (with_reducible refine s_gnil ?_) | (with_reducible refine s_yes ?_) | (with_reducible refine s_raise ?_)
  | ((with_reducible refine' s_pow ?hc ?_); (case hc => exact ⟨by decide, by decide, by decide⟩)) | (with_reducible refine s_int ?_) | (with_reducible refine s_intB ?_) | (with_reducible refine s_strS ?_) | (with_reducible refine s_abs ?_) | (with_reducible refine s_max ?_) | (with_reducible refine s_min ?_) | (with_reducible refine s_gcd ?_)
  | (with_reducible refine s_chain ?_) | (with_reducible refine s_sl ?_) | (with_reducible refine s_noP ?_) | (with_reducible refine s_part ?_) | (with_reducible refine s_exI ?_) 
  | ((with_reducible refine' s_mulI ?hc ?_); (case hc => first | exact Or.inl (Or.inr ⟨by decide, by decide⟩) | exact Or.inl (Or.inl ⟨by decide, by decide⟩) | exact Or.inl (Or.inl ⟨by omega, by omega⟩) | exact Or.inl (Or.inr ⟨by omega, by omega⟩) | walk_at "umul"))
  | ((with_reducible refine' s_ixT ?hc ?hd ?_); (case hc => assumption); (case hd => rfl))
  | ((with_reducible refine' s_lenL ?hc ?_); (case hc => first | assumption | exact SqL.of (by assumption))) | ((with_reducible refine' s_lenT ?hc ?_); (case hc => first | assumption | exact SqT.of (by assumption)))
  | ((with_reducible refine' s_divP ?hc ?hd ?_); (case hc => first | decide | assumption | omega); (case hd => first | decide +kernel | assumption)))
local macro_rules | `(tactic| walk_at "us") => `(tactic| repeat walk_at "us2")
local macro_rules | `(tactic| walk_at "uj") => `(tactic| ((walk_at "us"); with_reducible refine s_J ?_))
local macro_rules | `(tactic| walk_at "ua") => `(tactic| ((walk_at "us"); repeat ((first | (refine s_iF ?_) | (refine s_iT ?_)); (walk_at "us"))))
local macro_rules | `(tactic| walk_at "ub") => `(tactic| walk_at "ua")
local macro_rules | `(tactic| walk_at "ux1") => `(tactic| first
  | walk_at "us2" | ((with_reducible refine' s_ixL ?hc ?hd ?_); (case hc => first | assumption | exact SqL.of (by assumption)); (case hd => rfl)) | ((with_reducible refine' s_ixT ?hc ?hd ?_); (case hc => exact SqT.of (by assumption)); (case hd => rfl))
  | ((with_reducible refine' s_intS ?hc ?hd ?_); (case hc => assumption); (case hd => assumption)) | ((with_reducible refine' s_lenS ?hc ?_); (case hc => assumption)))
local macro_rules | `(tactic| walk_at "ux") => `(tactic| repeat walk_at "ux1")
local macro_rules | `(tactic| walk_at "uy") => `(tactic| ((walk_at "ux"); repeat ((first | (refine s_iF ?_) | (refine s_iT ?_)); (walk_at "ux"))))
local macro_rules | `(tactic| walk_at "uz0") => `(tactic| first
  | (with_reducible refine s_seq ?_) | (with_reducible refine s_asg ?_) | (with_reducible refine s_gn ?_) | (with_reducible refine s_ret ?_) | (with_reducible refine s_drop ?_) | (with_reducible refine s_if ?_) | (with_reducible refine s_next ?_)
  | (with_reducible refine s_brk ?_) | (with_reducible refine s_cont ?_)
  | ((with_reducible refine' s_var ?hv ?_); (case hv => exact rfl)) | (with_reducible refine s_c ?_) | (with_reducible refine s_op ?_) | (with_reducible refine s_un ?_) | (with_reducible refine s_cb ?_) | (with_reducible refine s_call ?_)
  | (with_reducible refine s_cons ?_) | (with_reducible refine s_nil ?_) | (with_reducible refine s_test ?_) | (with_reducible refine s_tB ?_) | (with_reducible refine s_not ?_) | (with_reducible refine s_and ?_) | (with_reducible refine s_or ?_)
  | (with_reducible refine s_andV ?_) | (with_reducible refine s_orV ?_) | (with_reducible refine s_notV ?_) | (with_reducible refine s_ifE ?_) | (with_reducible refine s_bl ?_) | (with_reducible refine s_iT ?_) | (with_reducible refine s_iF ?_)
  | (with_reducible refine s_I0 ?_) | (with_reducible refine s_U ?_) | (with_reducible refine s_addI ?_) | (with_reducible refine s_eqI ?_) | (with_reducible refine s_eqS ?_) | (with_reducible refine s_eqB ?_) | (with_reducible refine s_neI ?_) | (with_reducible refine s_neS ?_) | (with_reducible refine s_neB ?_))
local macro_rules | `(tactic| walk_at "uz2") => `(tactic| first
  | walk_at "uz0" | (with_reducible refine s_dput ?_) | ((with_reducible refine' s_mod ?hc ?_); (case hc => first | decide | assumption | omega))
  | (with_reducible refine s_for ?_) | (with_reducible refine s_lc ?_) | (with_reducible refine s_itl ?_) | (with_reducible refine s_itt ?_) | (with_reducible refine s_its ?_) | (with_reducible refine s_itr ?_) | (with_reducible refine s_itr2 ?_) | (with_reducible refine s_disp ?_) | (with_reducible refine s_prn ?_) | (with_reducible refine s_prc ?_) | (with_reducible refine s_m1 ?_) | (with_reducible refine s_isS ?_) | (with_reducible refine s_um1 ?_) | (with_reducible refine s_isB ?_) | (with_reducible refine s_isn ?_) | (with_reducible refine s_notn ?_) | (with_reducible refine s_jd ?_) | (with_reducible refine s_jn ?_) | (with_reducible refine s_jc ?_) | (with_reducible refine s_fmt ?_) | (with_reducible refine s_gc ?_) | (with_reducible refine s_gnil ?_) | (with_reducible refine s_yes ?_) | (with_reducible refine s_raise ?_)
  | ((with_reducible refine' s_pow ?hc ?_); (case hc => exact ⟨by decide, by decide, by decide⟩)) | (with_reducible refine s_int ?_) | (with_reducible refine s_intB ?_) | (with_reducible refine s_strS ?_) | (with_reducible refine s_abs ?_) | (with_reducible refine s_max ?_) | (with_reducible refine s_min ?_) | (with_reducible refine s_gcd ?_)
  | (with_reducible refine s_chain ?_) | (with_reducible refine s_sl ?_) | (with_reducible refine s_noP ?_) | (with_reducible refine s_part ?_) | (with_reducible refine s_exI ?_) 
  | ((with_reducible refine' s_mulI ?hc ?_); (case hc => first | exact Or.inl (Or.inr ⟨by decide, by decide⟩) | exact Or.inl (Or.inl ⟨by decide, by decide⟩) | exact Or.inl (Or.inl ⟨by omega, by omega⟩) | exact Or.inl (Or.inr ⟨by omega, by omega⟩) | walk_at "umul"))
  | ((with_reducible refine' s_ixT ?hc ?hd ?_); (case hc => assumption); (case hd => rfl))
  | ((with_reducible refine' s_lenL ?hc ?_); (case hc => first | assumption | exact SqL.of (by assumption))) | ((with_reducible refine' s_lenT ?hc ?_); (case hc => first | assumption | exact SqT.of (by assumption)))
  | ((with_reducible refine' s_divP ?hc ?hd ?_); (case hc => first | decide | assumption | omega); (case hd => first | decide +kernel | assumption)))
local macro_rules | `(tactic| walk_at "uz1") => `(tactic| first
  | walk_at "uz2" | ((with_reducible refine' s_ixL ?hc ?hd ?_); (case hc => first | assumption | exact SqL.of (by assumption)); (case hd => rfl)) | ((with_reducible refine' s_ixT ?hc ?hd ?_); (case hc => exact SqT.of (by assumption)); (case hd => rfl))
  | ((with_reducible refine' s_intS ?hc ?hd ?_); (case hc => assumption); (case hd => assumption)) | ((with_reducible refine' s_lenS ?hc ?_); (case hc => assumption)))
local macro_rules | `(tactic| walk_at "uz") => `(tactic| ((repeat walk_at "uz1"); repeat ((first | (refine s_iF ?_) | (refine s_iT ?_)); (repeat walk_at "uz1"))))
local macro_rules | `(tactic| walk_at "umul") => `(tactic| exact Or.inr (mulB (by assumption) (by assumption)))
theorem fac_le : 10 ^ 60 * 10 ^ 9 ≤ big := by decide +kernel
theorem mul_fac {n f : Int} (h : n.natAbs < 10 ^ 60) (hf : f.natAbs ≤ 10 ^ 9) : (n * f).natAbs ≤ big := by
  rw [Int.natAbs_mul]
  exact Nat.le_trans (Nat.mul_le_mul (Nat.le_of_lt h) hf) fac_le
section
variable {P : Program} {w : World} {K : PySem.W.Frag} {mg : Str → Option Value} {base : Heap}
variable {cE cB cN : Addr}
theorem ok_law (T : Tp P K mg cE cB cN)
    (c_l_bag_of : Cal P w K mg base 1 "_law_bag_of" P_l_bag_of [] (spBagOf K))
    (c_l_choice : Cal P w K mg base 2 "_law_choice" P_l_choice [] (spChoice K))
    (c_l_number_of : Cal P w K mg base 3 "_law_number_of" P_l_number_of [] (spNumberOf))
    (c_l_one_in : Cal P w K mg base 2 "_law_one_in" P_l_one_in [] (spOne))
    (c_l_ratio : Cal P w K mg base 2 "_law_ratio" P_l_ratio [] (spLRatio))
    (c_l_right_kinds : Cal P w K mg base 3 "_law_right_kinds" P_l_right_kinds [] (spRightKinds K))
    (c_l_right_making : Cal P w K mg base 3 "_law_right_making" P_l_right_making [] (spRightMaking))
    (c_l_right_reckoning : Cal P w K mg base 4 "_law_right_reckoning" P_l_right_reckoning [] (spRightReckoning K))
    (c_l_right_texts : Cal P w K mg base 5 "_law_right_texts" P_l_right_texts [] (spRightTexts K))
    (c_l_second_of : Cal P w K mg base 4 "_law_second_of" P_l_second_of [] (spSecondOf K))
    {f : Addr} {fd : FuncData} {dvs : List V} (F : FunD K "law" "law" (defArgs s_law) (defBody s_law) (defScope s_law) dvs [] f fd) : FnG P w K mg base 6 f fd P_law (spLaw K) := by
  refine fng F sc_law (by walk_at "ulen") (fun cdv A outer s H vs Q E hr0 hg0 h => ?_)
  have hr : Rm 5 (A.deeper (envOfC "law" (defScope s_law) s.heap.objs.size f cdv)) := ⟨hr0, hg0⟩
  have nd : N_law.Nodup := sc_law.nd
  obtain ⟨p, ns, rfl, hp, hl, hb, k⟩ := h
  refine ⟨_, (pss_cons (ps_set (i := 1) nd rfl (Or.inl rfl) (pe_c (E := En) c_l_bag_of (hr.mono (by decide)) paN (pa_cons (pv 0) pa_nil)))
    (pss_cons (ps_set (i := 2) nd rfl (Or.inl rfl) (pe_c (E := En) c_l_number_of (hr.mono (by decide)) paN (pa_cons (pv 1) pa_nil)))
    (pss_cons (ps_set (i := 3) nd rfl (Or.inl rfl) (pe_c (E := En) c_l_number_of (hr.mono (by decide)) paN (pa_cons (pv 1) pa_nil)))
    (pss_consJ (ps_if (pt_val (pe_c (E := En) c_l_one_in (hr.mono (by decide)) paN (pa_cons (pv 1) (pa_cons pe_int pa_nil)))) (pss_one (ps_set (i := 3) nd rfl (Or.inl rfl) pe_int)) pss_nil)
    (pss_consJ (ps_if (PW.pt (pw_and (pt_cmpR op_lt (pe_callB call_uAbs (by rfl) T.abs b_abs (pa_cons (pv 2) pa_nil)) (pe_op op_pow pe_int pe_int) (nomark _)) (pw_and1 (pt_cmpR op_lt (pe_callB call_uAbs (by rfl) T.abs b_abs (pa_cons (pv 3) pa_nil)) (pe_op op_pow pe_int pe_int) (nomark _))))) (pss_cons (ps_set (i := 4) nd rfl (Or.inl rfl) (pe_c (E := En) c_l_choice (hr.mono (by decide)) paN (pa_cons (pv 1) (pa_cons (pe_lst (pa_cons pe_int (pa_cons pe_int (pa_cons pe_int (pa_cons pe_int (pa_cons (pe_op op_pow pe_int pe_int) pa_nil)))))) pa_nil))))
    (pss_cons (ps_set (i := 2) nd rfl (Or.inl rfl) (pe_op op_uMul (pv 2) (pv 4)))
    (pss_one (ps_set (i := 3) nd rfl (Or.inl rfl) (pe_op op_uMul (pv 3) (pv 4)))))) pss_nil)
    (pss_consJ (ps_set (i := 5) nd rfl (Or.inl rfl) (pe_c (E := En) c_l_ratio (hr.mono (by decide)) paN (pa_cons (pv 2) (pa_cons (pe_ifExp (pt_cmpR (op_uNe hr.r.units) (pv 3) pe_int (nomark _)) (pv 3) pe_int) pa_nil))))
    (pss_cons (ps_set (i := 6) nd rfl (Or.inl rfl) (pe_c (E := En) c_l_second_of (hr.mono (by decide)) paN (pa_cons (pv 1) (pa_cons (pv 5) pa_nil))))
    (pss_cons (ps_if (PW.pt (pw_or (pt_not (pt_val (pe_c (E := En) c_l_right_making (hr.mono (by decide)) paN (pa_cons (pv 2) (pa_cons (pv 3) pa_nil))))) (pw_or1 (pt_not (pt_val (pe_c (E := En) c_l_right_kinds (hr.mono (by decide)) paN (pa_cons (pv 2) (pa_cons (pv 3) (pa_cons (pv 5) (pa_cons (pv 6) pa_nil)))))))))) (pss_one (ps_ret pe_bl)) pss_nil)
    (pss_cons (ps_if (PW.pt (pw_or (pt_not (pt_val (pe_c (E := En) c_l_right_reckoning (hr.mono (by decide)) paN (pa_cons (pv 5) (pa_cons (pv 6) pa_nil))))) (pw_or1 (pt_not (pt_val (pe_c (E := En) c_l_right_reckoning (hr.mono (by decide)) paN (pa_cons (pv 6) (pa_cons (pv 5) pa_nil)))))))) (pss_one (ps_ret pe_bl)) pss_nil)
    (pss_cons (ps_if (pt_not (pt_val (pe_c (E := En) c_l_right_reckoning (hr.mono (by decide)) paN (pa_cons (pv 5) (pa_cons (pv 5) pa_nil))))) (pss_one (ps_ret pe_bl)) pss_nil)
    (pss_one (ps_ret (pe_and (pe_c (E := En) c_l_right_texts (hr.mono (by decide)) paN (pa_cons (pv 1) (pa_cons (pv 5) pa_nil))) (pe_one (pe_c (E := En) c_l_right_texts (hr.mono (by decide)) paN (pa_cons (pv 1) (pa_cons (pv 6) pa_nil))))))))))))))))), ?_⟩
  walk_at "uk"
  walk_at "uy"
  refine ⟨p, ns, rfl, hp, hl, hb, fun b H1 e1 hb1 => ?_⟩
  walk_at "uy"
  refine ⟨b, rfl, hb1, fun n H2 bn k2 => ?_⟩
  walk_at "uy"
  refine ⟨b, rfl, k2.b1, fun d H3 bd k3 => ?_⟩
  walk_at "uj"
  refine s_seqJ (fun σ' H' => BagAt H' b ∧ ∃ d : Int, d.natAbs ≤ big ∧ σ' = (((L2.start N_law [.ref p]).set 1 (some (.ref b))).set 2 (some (.int n))).set 3 (some (.int d))) ?_ (fun R hR => ?_)
  · clear bd k3 k2 hb1
    rintro σ' H4 ⟨b4, d, bd, rfl⟩
    walk_at "uj"
    refine s_seqJ (fun σ' H' => BagAt H' b ∧ ∃ (n d : Int) (o : Option V), n.natAbs ≤ big ∧ d.natAbs ≤ big ∧ σ' = ((((L2.start N_law [.ref p]).set 1 (some (.ref b))).set 2 (some (.int n))).set 3 (some (.int d))).set 4 o) ?_ (fun R hR => ?_)
    · clear bn bd b4
      rintro σ' H5 ⟨b5, n, d, o, bn, bd, rfl⟩
      walk_at "uj"
      refine s_seqJ (fun σ' H' => BagAt H' b ∧ ∃ (n1 d1 : Int) (q : Addr), SqT K H' q [.int n1, .int d1] ∧ Low n1 d1 ∧ σ' = (((((L2.start N_law [.ref p]).set 1 (some (.ref b))).set 2 (some (.int n))).set 3 (some (.int d))).set 4 o).set 5 (some (.ref q))) ?_ (fun R hR => ?_)
      · rintro σ' H6 ⟨b6, n1, d1, q, hq, L1, rfl⟩
        walk_at "uy"
        refine ⟨b, .ref q, n1, d1, rfl, b6, ⟨q, rfl, hq⟩, L1, fun w n2 d2 H7 hw LB k7 => ?_⟩
        obtain ⟨q2, rfl, hq2⟩ := hw
        have hq7 := k7.t hq
        have b7 := k7.b1
        walk_at "uy"
        refine ⟨n, d, rfl, md_one bn, md_one bd, fun H8 e8 => ?_⟩
        walk_at "uy"
        refine ⟨n, d, _, _, n1, d1, n2, d2, rfl, ⟨q, rfl, Ex.st hq7 e8⟩, ⟨q2, rfl, Ex.st hq2 e8⟩, L1, LB, fun H9 e9 => ?_⟩
        have e10 := e8.tr e9
        walk_at "uy"
        refine ⟨_, _, n1, d1, n2, d2, rfl, ⟨q, rfl, Ex.st hq7 e10⟩, ⟨q2, rfl, Ex.st hq2 e10⟩, L1, LB, fun HA eA => ?_⟩
        have e11 := e10.tr eA
        walk_at "uy"
        refine ⟨_, _, n2, d2, n1, d1, rfl, ⟨q2, rfl, Ex.st hq2 e11⟩, ⟨q, rfl, Ex.st hq7 e11⟩, LB, L1, fun HB eB => ?_⟩
        have e12 := e11.tr eB
        walk_at "uy"
        refine ⟨_, _, n1, d1, n1, d1, rfl, ⟨q, rfl, Ex.st hq7 e12⟩, ⟨q, rfl, Ex.st hq7 e12⟩, L1, L1, fun HC eC => ?_⟩
        have e13 := e12.tr eC
        have bC := b7.ex e13
        walk_at "uy"
        refine ⟨b, _, n1, d1, rfl, bC, ⟨q, rfl, Ex.st hq7 e13⟩, L1, fun HD kD => ?_⟩
        walk_at "uy"
        exact ⟨b, _, n2, d2, rfl, kD.b1, ⟨q2, rfl, kD.t (Ex.st hq2 e13)⟩, LB, fun HE kE => k _⟩
      · walk_at "uy"
        refine s_iteN (fun hz => ?_) (fun hz => ?_)
        · walk_at "uy"
          refine ⟨n, d, rfl, md_one bn, md_one bd, hz, fun q H6 e6 hq => ?_⟩
          walk_at "uy"
          exact hR _ _ ⟨b5.ex e6, _, _, q, .of hq, low_rat hz bn bd, rfl⟩
        · walk_at "uy"
          refine ⟨n, 1, rfl, md_one bn, by decide +kernel, by decide, fun q H6 e6 hq => ?_⟩
          walk_at "uy"
          exact hR _ _ ⟨b5.ex e6, _, _, q, .of hq, low_rat (by decide) bn (by decide +kernel), rfl⟩
    · have t60 : (10 : Int) ^ Int.toNat 60 = 10 ^ 60 := by decide
      walk_at "ux"
      generalize hc1 : decide ((n.natAbs : Int) < 10 ^ Int.toNat 60) = z1
      refine s_itB (fun c1 => ?_) (fun c1 => ?_)
      · rw [c1] at hc1
        replace c1 := hc1
        walk_at "ux"
        generalize hc2 : decide ((d.natAbs : Int) < 10 ^ Int.toNat 60) = z2
        refine s_itB (fun c2 => ?_) (fun c2 => ?_)
        · rw [c2] at hc2
          replace c2 := hc2
          replace c1 := of_decide_eq_true c1
          replace c2 := of_decide_eq_true c2
          rw [t60] at c1 c2
          have m1 : n.natAbs < 10 ^ 60 := by omega
          have m2 : d.natAbs < 10 ^ 60 := by omega
          walk_at "uy"
          refine s_szN (Nat.le_of_ble_eq_true rfl) fun q nq => ?_
          have b5 := b4.ex (exN (o := .lst [.int 1, .int 1, .int 2, .int 6, .int (10 ^ Int.toNat 9)]) nq)
          refine ⟨b, b5, .inl ⟨q, _, rfl, .of upd_same, Nat.succ_pos _, Nat.le_of_ble_eq_true rfl, fun v H6 hv k6 => ?_⟩⟩
          obtain ⟨f, rfl, hf⟩ : ∃ f : Int, v = .int f ∧ f.natAbs ≤ 10 ^ 9 := by
            simp only [List.mem_cons, List.not_mem_nil, or_false] at hv
            rcases hv with rfl | rfl | rfl | rfl | rfl <;> exact ⟨_, rfl, by decide⟩
          have hf1 : -(2 ^ 64) < f := by omega
          have hf2 : f < 2 ^ 64 := by omega
          walk_at "uy"
          exact hR _ _ ⟨k6.b1, _, _, _, mul_fac m1 hf, mul_fac m2 hf, rfl⟩
        · walk_at "uy"
          exact hR _ _ ⟨b4, n, d, none, bn, bd, rfl⟩
      · walk_at "uy"
        exact hR _ _ ⟨b4, n, d, none, bn, bd, rfl⟩
  · walk_at "uy"
    refine ⟨b, 12, rfl, k3.b1, by decide, by decide, fun r H4 k4 => ?_⟩
    walk_at "uy"
    refine s_itB (fun _ => ?_) (fun _ => ?_)
    · walk_at "uy"
      exact hR _ _ ⟨k4.b1, 0, by decide +kernel, rfl⟩
    · walk_at "uy"
      exact hR _ _ ⟨k4.b1, d, bd, rfl⟩
end
end Lw

set_option Elab.async false
set_option linter.all false
set_option maxRecDepth 100000
set_option maxHeartbeats 4000000
namespace Hd
open PySem PySem.Spec PyProof.Rows L2 He
def nm0 : List PySem.Str := ["EllError", "BadRatio", "Nought", "FIGURES", "MOST_FIGURES", "is_integer", "ratio", "is_ratio", "plus", "minus", "times", "over", "compare", "write_ratio", "is_number_text", "read_ratio", "_law_bag_of", "_law_pick", "_law_choice", "_law_one_in", "_law_integer", "_law_gcd", "_law_ratio", "_law_plus", "_law_minus", "_law_times", "_law_over", "_law_number_of", "_law_second_of", "_law_same"]
def nm1 : List PySem.Str := ["_law_ratio_told", "_law_over_told", "_law_read_told", "_law_right_making", "_law_right_reckoning", "_law_text_of", "_law_figures", "_law_value_of", "_law_right_reading", "_law_spoilt", "_law_odd_texts", "_law_odd_things", "_law_right_texts", "_law_right_kinds"]
def names : List PySem.Str := nm0 ++ nm1
abbrev L : PySem.W.OpenLaw := PySem.Challenge.rw_ellwarden_k01_ratios
abbrev R : PySem.W.OpenRow := PySem.W.OpenLaw.row L
def fb : List (PySem.W.Frag → Bool) := [Hk.fa (.free "isinstance"),
  Hk.fa (.free "len"),
  Hk.fa (.free "abs"),
  Hk.fa (.free "repr"),
  Hk.fa (.free "max"),
  Hk.fa (.free "min"),
  Hk.fa (.free "sum"),
  Hk.fa (.free "all"),
  Hk.fa (.free "any"),
  Hk.fa (.free "sorted"),
  Hk.fa (.free "int"),
  Hk.fa (.free "str"),
  Hk.fa (.free "list"),
  Hk.fa (.free "tuple"),
  Hk.fa (.free "bool"),
  Hk.fa (.free "dict"),
  Hk.fa (.free "range"),
  Hk.fa (.free "enumerate"),
  Hk.fa (.free "zip"),
  Hk.fa (.free "iter"),
  Hk.fa (.free "reversed"),
  Hk.fa (.free "super"),
  Hk.fa (.free "ValueError"),
  Hk.xB1 "Nought" ["number"],
  Hk.xB2 (PySem.Challenge.pw_ellwarden_k01_ratios.main.file) "Nought",
  Hk.excB "Nought",
  Hk.xB1 "BadRatio" ["text"],
  Hk.xB2 (PySem.Challenge.pw_ellwarden_k01_ratios.main.file) "BadRatio",
  Hk.excB "BadRatio",
  Hk.gloV "gcd" (.builtin "math.gcd"),
  Hk.fa (.str "FIGURES" "0123456789"),
  Hk.fa (.int "MOST_FIGURES" 400),
  Hk.fa (.glo "EllError"),
  Hk.fa (.exm "BadRatio" "BadRatio" true),
  Hk.fa (.exm "Nought" "Nought" true),
  Hk.kitB' "BadRatio" (fun _ => .type "ValueError") true,
  Hk.kitB' "Nought" (fun _ => .type "ValueError") true,
  Hk.kitB' "BadRatio" (fun K => .ref (ga K "EllError")) true,
  Hk.kitB' "Nought" (fun K => .ref (ga K "EllError")) true,
  Hk.kitB' "BadRatio" (fun K => .ref (ga K "Nought")) false,
  Hk.kitB' "Nought" (fun K => .ref (ga K "BadRatio")) false,
  Hk.fa (.noat "BadRatio" "text"),
  Hk.fa (.noat "Nought" "number"),
  Hk.fa (.glo "is_integer"),
  Hk.fa (.glo "ratio"),
  Hk.fa (.glo "is_ratio"),
  Hk.fa (.glo "plus"),
  Hk.fa (.glo "minus"),
  Hk.fa (.glo "times"),
  Hk.fa (.glo "over"),
  Hk.fa (.glo "compare"),
  Hk.fa (.glo "write_ratio"),
  Hk.fa (.glo "is_number_text"),
  Hk.fa (.glo "read_ratio"),
  Hk.fa (.glo "_law_bag_of"),
  Hk.fa (.glo "_law_pick"),
  Hk.fa (.glo "_law_choice"),
  Hk.fa (.glo "_law_one_in"),
  Hk.fa (.glo "_law_integer"),
  Hk.fa (.glo "_law_gcd"),
  Hk.fa (.glo "_law_ratio"),
  Hk.fa (.glo "_law_plus"),
  Hk.fa (.glo "_law_minus"),
  Hk.fa (.glo "_law_times"),
  Hk.fa (.glo "_law_over"),
  Hk.fa (.glo "_law_number_of"),
  Hk.fa (.glo "_law_second_of"),
  Hk.fa (.glo "_law_same"),
  Hk.fa (.glo "_law_ratio_told"),
  Hk.fa (.glo "_law_over_told"),
  Hk.fa (.glo "_law_read_told"),
  Hk.fa (.glo "_law_right_making"),
  Hk.fa (.glo "_law_right_reckoning"),
  Hk.fa (.glo "_law_text_of"),
  Hk.fa (.glo "_law_figures"),
  Hk.fa (.glo "_law_value_of"),
  Hk.fa (.glo "_law_right_reading"),
  Hk.fa (.glo "_law_spoilt"),
  Hk.fa (.glo "_law_odd_texts"),
  Hk.fa (.glo "_law_odd_things"),
  Hk.fa (.glo "_law_right_texts"),
  Hk.fa (.glo "_law_right_kinds"),
  Hk.fa (.glo "law")]
def fn : List He5.DefA := [⟨fun K => ga K "is_integer", "is_integer", "is_integer", defArgs Lw.s_is_integer, defBody Lw.s_is_integer, defScope Lw.s_is_integer, [.non, .non], []⟩,
  ⟨fun K => ga K "ratio", "ratio", "ratio", defArgs Lw.s_ratio, defBody Lw.s_ratio, defScope Lw.s_ratio, [.int 1], []⟩,
  ⟨fun K => ga K "is_ratio", "is_ratio", "is_ratio", defArgs Lw.s_is_ratio, defBody Lw.s_is_ratio, defScope Lw.s_is_ratio, [], []⟩,
  ⟨fun K => ga K "plus", "plus", "plus", defArgs Lw.s_plus, defBody Lw.s_plus, defScope Lw.s_plus, [], []⟩,
  ⟨fun K => ga K "minus", "minus", "minus", defArgs Lw.s_minus, defBody Lw.s_minus, defScope Lw.s_minus, [], []⟩,
  ⟨fun K => ga K "times", "times", "times", defArgs Lw.s_times, defBody Lw.s_times, defScope Lw.s_times, [], []⟩,
  ⟨fun K => ga K "over", "over", "over", defArgs Lw.s_over, defBody Lw.s_over, defScope Lw.s_over, [], []⟩,
  ⟨fun K => ga K "compare", "compare", "compare", defArgs Lw.s_compare, defBody Lw.s_compare, defScope Lw.s_compare, [], []⟩,
  ⟨fun K => ga K "write_ratio", "write_ratio", "write_ratio", defArgs Lw.s_write_ratio, defBody Lw.s_write_ratio, defScope Lw.s_write_ratio, [], []⟩,
  ⟨fun K => ga K "is_number_text", "is_number_text", "is_number_text", defArgs Lw.s_is_number_text, defBody Lw.s_is_number_text, defScope Lw.s_is_number_text, [], []⟩,
  ⟨fun K => ga K "read_ratio", "read_ratio", "read_ratio", defArgs Lw.s_read_ratio, defBody Lw.s_read_ratio, defScope Lw.s_read_ratio, [], []⟩,
  ⟨fun K => ga K "_law_bag_of", "_law_bag_of", "_law_bag_of", defArgs Lw.s_l_bag_of, defBody Lw.s_l_bag_of, defScope Lw.s_l_bag_of, [], []⟩,
  ⟨fun K => ga K "_law_pick", "_law_pick", "_law_pick", defArgs Lw.s_l_pick, defBody Lw.s_l_pick, defScope Lw.s_l_pick, [], []⟩,
  ⟨fun K => ga K "_law_choice", "_law_choice", "_law_choice", defArgs Lw.s_l_choice, defBody Lw.s_l_choice, defScope Lw.s_l_choice, [], []⟩,
  ⟨fun K => ga K "_law_one_in", "_law_one_in", "_law_one_in", defArgs Lw.s_l_one_in, defBody Lw.s_l_one_in, defScope Lw.s_l_one_in, [], []⟩,
  ⟨fun K => ga K "_law_integer", "_law_integer", "_law_integer", defArgs Lw.s_l_integer, defBody Lw.s_l_integer, defScope Lw.s_l_integer, [], []⟩,
  ⟨fun K => ga K "_law_gcd", "_law_gcd", "_law_gcd", defArgs Lw.s_l_gcd, defBody Lw.s_l_gcd, defScope Lw.s_l_gcd, [], []⟩,
  ⟨fun K => ga K "_law_ratio", "_law_ratio", "_law_ratio", defArgs Lw.s_l_ratio, defBody Lw.s_l_ratio, defScope Lw.s_l_ratio, [], []⟩,
  ⟨fun K => ga K "_law_plus", "_law_plus", "_law_plus", defArgs Lw.s_l_plus, defBody Lw.s_l_plus, defScope Lw.s_l_plus, [], []⟩,
  ⟨fun K => ga K "_law_minus", "_law_minus", "_law_minus", defArgs Lw.s_l_minus, defBody Lw.s_l_minus, defScope Lw.s_l_minus, [], []⟩,
  ⟨fun K => ga K "_law_times", "_law_times", "_law_times", defArgs Lw.s_l_times, defBody Lw.s_l_times, defScope Lw.s_l_times, [], []⟩,
  ⟨fun K => ga K "_law_over", "_law_over", "_law_over", defArgs Lw.s_l_over, defBody Lw.s_l_over, defScope Lw.s_l_over, [], []⟩,
  ⟨fun K => ga K "_law_number_of", "_law_number_of", "_law_number_of", defArgs Lw.s_l_number_of, defBody Lw.s_l_number_of, defScope Lw.s_l_number_of, [], []⟩,
  ⟨fun K => ga K "_law_second_of", "_law_second_of", "_law_second_of", defArgs Lw.s_l_second_of, defBody Lw.s_l_second_of, defScope Lw.s_l_second_of, [], []⟩,
  ⟨fun K => ga K "_law_same", "_law_same", "_law_same", defArgs Lw.s_l_same, defBody Lw.s_l_same, defScope Lw.s_l_same, [], []⟩,
  ⟨fun K => ga K "_law_ratio_told", "_law_ratio_told", "_law_ratio_told", defArgs Lw.s_l_ratio_told, defBody Lw.s_l_ratio_told, defScope Lw.s_l_ratio_told, [], []⟩,
  ⟨fun K => ga K "_law_over_told", "_law_over_told", "_law_over_told", defArgs Lw.s_l_over_told, defBody Lw.s_l_over_told, defScope Lw.s_l_over_told, [], []⟩,
  ⟨fun K => ga K "_law_read_told", "_law_read_told", "_law_read_told", defArgs Lw.s_l_read_told, defBody Lw.s_l_read_told, defScope Lw.s_l_read_told, [], []⟩,
  ⟨fun K => ga K "_law_right_making", "_law_right_making", "_law_right_making", defArgs Lw.s_l_right_making, defBody Lw.s_l_right_making, defScope Lw.s_l_right_making, [], []⟩,
  ⟨fun K => ga K "_law_right_reckoning", "_law_right_reckoning", "_law_right_reckoning", defArgs Lw.s_l_right_reckoning, defBody Lw.s_l_right_reckoning, defScope Lw.s_l_right_reckoning, [], []⟩,
  ⟨fun K => ga K "_law_text_of", "_law_text_of", "_law_text_of", defArgs Lw.s_l_text_of, defBody Lw.s_l_text_of, defScope Lw.s_l_text_of, [], []⟩,
  ⟨fun K => ga K "_law_figures", "_law_figures", "_law_figures", defArgs Lw.s_l_figures, defBody Lw.s_l_figures, defScope Lw.s_l_figures, [], []⟩,
  ⟨fun K => ga K "_law_value_of", "_law_value_of", "_law_value_of", defArgs Lw.s_l_value_of, defBody Lw.s_l_value_of, defScope Lw.s_l_value_of, [], []⟩,
  ⟨fun K => ga K "_law_right_reading", "_law_right_reading", "_law_right_reading", defArgs Lw.s_l_right_reading, defBody Lw.s_l_right_reading, defScope Lw.s_l_right_reading, [], []⟩,
  ⟨fun K => ga K "_law_spoilt", "_law_spoilt", "_law_spoilt", defArgs Lw.s_l_spoilt, defBody Lw.s_l_spoilt, defScope Lw.s_l_spoilt, [], []⟩,
  ⟨fun K => ga K "_law_odd_texts", "_law_odd_texts", "_law_odd_texts", defArgs Lw.s_l_odd_texts, defBody Lw.s_l_odd_texts, defScope Lw.s_l_odd_texts, [], []⟩,
  ⟨fun K => ga K "_law_odd_things", "_law_odd_things", "_law_odd_things", defArgs Lw.s_l_odd_things, defBody Lw.s_l_odd_things, defScope Lw.s_l_odd_things, [], []⟩,
  ⟨fun K => ga K "_law_right_texts", "_law_right_texts", "_law_right_texts", defArgs Lw.s_l_right_texts, defBody Lw.s_l_right_texts, defScope Lw.s_l_right_texts, [], []⟩,
  ⟨fun K => ga K "_law_right_kinds", "_law_right_kinds", "_law_right_kinds", defArgs Lw.s_l_right_kinds, defBody Lw.s_l_right_kinds, defScope Lw.s_l_right_kinds, [], []⟩,
  ⟨fun K => ga K "law", "law", "law", defArgs Lw.s_law, defBody Lw.s_law, defScope Lw.s_law, [], []⟩]
def xs : List Hk.XI := [⟨"Nought", defArgs Lw.s_Nought_init, defBody Lw.s_Nought_init, defScope Lw.s_Nought_init⟩,
  ⟨"BadRatio", defArgs Lw.s_BadRatio_init, defBody Lw.s_BadRatio_init, defScope Lw.s_BadRatio_init⟩]
abbrev V : Program := PySem.W.view R.prog [0, 48]
abbrev hk : PySem.W.Hook := Hk.hookO 5 fb fn xs
theorem run (w : World) : HandSHeadRun.RunEqI R V hk (fun s => Hk.obsOG 5 fb fn xs (HandSHeadRun.getT s)) 6000 names w := by
  unfold HandSHeadRun.RunEqI
  kernel_rfl
end Hd

set_option Elab.async false
set_option linter.all false
set_option maxRecDepth 100000
set_option maxHeartbeats 4000000
namespace Hd
open PySem PySem.Spec PyProof.Rows L2 He Uv
theorem x_Nought {K : PySem.W.Frag} {h : Heap} {mg : Str → Option Value} (X : K.In h) (G : h.Ns mainGlobals mg) (c : Hk.SaysO fb fn xs K) : Xc.Txt L.prog K mg "Nought" ["number"] (ga K "Nought") :=
  Hk.x_ok X G (c.fact 23 (f := Hk.xB1 "Nought" ["number"])) (c.fact 24 (f := Hk.xB2 (PySem.Challenge.pw_ellwarden_k01_ratios.main.file) "Nought")) (d := ⟨"Nought", defArgs Lw.s_Nought_init, defBody Lw.s_Nought_init, defScope Lw.s_Nought_init⟩) (c.xi 0) rfl rfl rfl (.cons "number" _ _ _ _ .nil) rfl rfl (fun _ _ _ _ _ _ _ us hu => match us, hu with | [_, _], _ => rfl)
    ⟨rfl, rfl, rfl, by decide +kernel, rfl, by decide +kernel, rfl, rfl⟩ rfl (by decide +kernel) (by decide +kernel)
theorem x_BadRatio {K : PySem.W.Frag} {h : Heap} {mg : Str → Option Value} (X : K.In h) (G : h.Ns mainGlobals mg) (c : Hk.SaysO fb fn xs K) : Xc.Txt L.prog K mg "BadRatio" ["text"] (ga K "BadRatio") :=
  Hk.x_ok X G (c.fact 26 (f := Hk.xB1 "BadRatio" ["text"])) (c.fact 27 (f := Hk.xB2 (PySem.Challenge.pw_ellwarden_k01_ratios.main.file) "BadRatio")) (d := ⟨"BadRatio", defArgs Lw.s_BadRatio_init, defBody Lw.s_BadRatio_init, defScope Lw.s_BadRatio_init⟩) (c.xi 1) rfl rfl rfl (.cons "text" _ _ _ _ .nil) rfl rfl (fun _ _ _ _ _ _ _ us hu => match us, hu with | [_, _], _ => rfl)
    ⟨rfl, rfl, rfl, by decide +kernel, rfl, by decide +kernel, rfl, rfl⟩ rfl (by decide +kernel) (by decide +kernel)
theorem tp {K : PySem.W.Frag} {h : Heap} {mg : Str → Option Value} (X : K.In h) (G : h.Ns mainGlobals mg) (c : Hk.SaysO fb fn xs K) : Lw.Tp L.prog K mg (ga K "EllError") (ga K "BadRatio") (ga K "Nought") :=
  { isinstance := free_ok X G (c.fact 0 (f := Hk.fa (.free "isinstance"))), len := free_ok X G (c.fact 1 (f := Hk.fa (.free "len"))), abs := free_ok X G (c.fact 2 (f := Hk.fa (.free "abs"))), repr := free_ok X G (c.fact 3 (f := Hk.fa (.free "repr"))), max := free_ok X G (c.fact 4 (f := Hk.fa (.free "max"))), min := free_ok X G (c.fact 5 (f := Hk.fa (.free "min"))), sum := free_ok X G (c.fact 6 (f := Hk.fa (.free "sum"))), all := free_ok X G (c.fact 7 (f := Hk.fa (.free "all"))), any := free_ok X G (c.fact 8 (f := Hk.fa (.free "any"))), sorted := free_ok X G (c.fact 9 (f := Hk.fa (.free "sorted"))), int := free_ok X G (c.fact 10 (f := Hk.fa (.free "int"))), str := free_ok X G (c.fact 11 (f := Hk.fa (.free "str"))), list := free_ok X G (c.fact 12 (f := Hk.fa (.free "list"))), tuple := free_ok X G (c.fact 13 (f := Hk.fa (.free "tuple"))), bool := free_ok X G (c.fact 14 (f := Hk.fa (.free "bool"))), dict := free_ok X G (c.fact 15 (f := Hk.fa (.free "dict"))), range := free_ok X G (c.fact 16 (f := Hk.fa (.free "range"))), enumerate := free_ok X G (c.fact 17 (f := Hk.fa (.free "enumerate"))), zip := free_ok X G (c.fact 18 (f := Hk.fa (.free "zip"))), iter := free_ok X G (c.fact 19 (f := Hk.fa (.free "iter"))), reversed := free_ok X G (c.fact 20 (f := Hk.fa (.free "reversed"))), super := free_ok X G (c.fact 21 (f := Hk.fa (.free "super"))), ValueError := free_ok X G (c.fact 22 (f := Hk.fa (.free "ValueError"))), x_BadRatio := x_BadRatio X G c, x_Nought := x_Nought X G c, g_BadRatio := (x_BadRatio X G c).gC, g_Nought := (x_Nought X G c).gC, g_EllError := glo_ok X G (c.fact 32 (f := Hk.fa (.glo "EllError"))), g_gcd := Hk.gloV_ok X G (c.fact 29 (f := Hk.gloV "gcd" (.builtin "math.gcd"))), g_FIGURES := str_ok X G (c.fact 30 (f := Hk.fa (.str "FIGURES" "0123456789"))), g_MOST_FIGURES := int_ok X G (c.fact 31 (f := Hk.fa (.int "MOST_FIGURES" 400))), mBB := exm_ok (c.fact 33 (f := Hk.fa (.exm "BadRatio" "BadRatio" true))), mNN := exm_ok (c.fact 34 (f := Hk.fa (.exm "Nought" "Nought" true))), oBV := of_decide_eq_true (c.fact 35 (f := Hk.kitB' "BadRatio" (fun _ => .type "ValueError") true)), oNV := of_decide_eq_true (c.fact 36 (f := Hk.kitB' "Nought" (fun _ => .type "ValueError") true)), oBE := of_decide_eq_true (c.fact 37 (f := Hk.kitB' "BadRatio" (fun K => .ref (ga K "EllError")) true)), oNE := of_decide_eq_true (c.fact 38 (f := Hk.kitB' "Nought" (fun K => .ref (ga K "EllError")) true)), oBN := of_decide_eq_true (c.fact 39 (f := Hk.kitB' "BadRatio" (fun K => .ref (ga K "Nought")) false)), oNB := of_decide_eq_true (c.fact 40 (f := Hk.kitB' "Nought" (fun K => .ref (ga K "BadRatio")) false)), eB := Hk.excB_ok (c.fact 28 (f := Hk.excB "BadRatio")), eN := Hk.excB_ok (c.fact 25 (f := Hk.excB "Nought")), xf_BadRatio := have z := Hk.excB_ok (c.fact 28 (f := Hk.excB "BadRatio")); ⟨z.hg, z.hk, z.hs, z.hd⟩, xf_Nought := have z := Hk.excB_ok (c.fact 25 (f := Hk.excB "Nought")); ⟨z.hg, z.hk, z.hs, z.hd⟩, xn_BadRatio_text := noat_ok (c.fact 41 (f := Hk.fa (.noat "BadRatio" "text"))), xn_Nought_number := noat_ok (c.fact 42 (f := Hk.fa (.noat "Nought" "number"))) }
theorem chain {w : World} {K : PySem.W.Frag} {h : Heap} {mg : Str → Option Value} {f : Addr} (X : K.In h) (G : h.Ns mainGlobals mg) (hfa : mg ("law" : Str) = some (.ref f)) (c : Hk.SaysO fb fn xs K) :
    ∃ fd : FuncData, (∀ (s : Shared) (v : Value), BindsTo s fd ⟨[v], []⟩ [("_law_script", v)]) ∧ ∀ base : Heap, FnG L.prog w K mg base 6 f fd ["_law_script"] (Lw.spLaw K) := by
  have T := tp X G c
  obtain ⟨fd_l_pick, F_l_pick⟩ := c.def_ 12 (d := ⟨fun K => ga K "_law_pick", "_law_pick", "_law_pick", defArgs Lw.s_l_pick, defBody Lw.s_l_pick, defScope Lw.s_l_pick, [], []⟩)
  obtain ⟨fd_l_one_in, F_l_one_in⟩ := c.def_ 14 (d := ⟨fun K => ga K "_law_one_in", "_law_one_in", "_law_one_in", defArgs Lw.s_l_one_in, defBody Lw.s_l_one_in, defScope Lw.s_l_one_in, [], []⟩)
  obtain ⟨fd_l_choice, F_l_choice⟩ := c.def_ 13 (d := ⟨fun K => ga K "_law_choice", "_law_choice", "_law_choice", defArgs Lw.s_l_choice, defBody Lw.s_l_choice, defScope Lw.s_l_choice, [], []⟩)
  obtain ⟨fd_l_bag_of, F_l_bag_of⟩ := c.def_ 11 (d := ⟨fun K => ga K "_law_bag_of", "_law_bag_of", "_law_bag_of", defArgs Lw.s_l_bag_of, defBody Lw.s_l_bag_of, defScope Lw.s_l_bag_of, [], []⟩)
  obtain ⟨fd_l_integer, F_l_integer⟩ := c.def_ 15 (d := ⟨fun K => ga K "_law_integer", "_law_integer", "_law_integer", defArgs Lw.s_l_integer, defBody Lw.s_l_integer, defScope Lw.s_l_integer, [], []⟩)
  obtain ⟨fd_l_gcd, F_l_gcd⟩ := c.def_ 16 (d := ⟨fun K => ga K "_law_gcd", "_law_gcd", "_law_gcd", defArgs Lw.s_l_gcd, defBody Lw.s_l_gcd, defScope Lw.s_l_gcd, [], []⟩)
  obtain ⟨fd_l_ratio, F_l_ratio⟩ := c.def_ 17 (d := ⟨fun K => ga K "_law_ratio", "_law_ratio", "_law_ratio", defArgs Lw.s_l_ratio, defBody Lw.s_l_ratio, defScope Lw.s_l_ratio, [], []⟩)
  obtain ⟨fd_l_plus, F_l_plus⟩ := c.def_ 18 (d := ⟨fun K => ga K "_law_plus", "_law_plus", "_law_plus", defArgs Lw.s_l_plus, defBody Lw.s_l_plus, defScope Lw.s_l_plus, [], []⟩)
  obtain ⟨fd_l_minus, F_l_minus⟩ := c.def_ 19 (d := ⟨fun K => ga K "_law_minus", "_law_minus", "_law_minus", defArgs Lw.s_l_minus, defBody Lw.s_l_minus, defScope Lw.s_l_minus, [], []⟩)
  obtain ⟨fd_l_times, F_l_times⟩ := c.def_ 20 (d := ⟨fun K => ga K "_law_times", "_law_times", "_law_times", defArgs Lw.s_l_times, defBody Lw.s_l_times, defScope Lw.s_l_times, [], []⟩)
  obtain ⟨fd_l_over, F_l_over⟩ := c.def_ 21 (d := ⟨fun K => ga K "_law_over", "_law_over", "_law_over", defArgs Lw.s_l_over, defBody Lw.s_l_over, defScope Lw.s_l_over, [], []⟩)
  obtain ⟨fd_l_number_of, F_l_number_of⟩ := c.def_ 22 (d := ⟨fun K => ga K "_law_number_of", "_law_number_of", "_law_number_of", defArgs Lw.s_l_number_of, defBody Lw.s_l_number_of, defScope Lw.s_l_number_of, [], []⟩)
  obtain ⟨fd_l_second_of, F_l_second_of⟩ := c.def_ 23 (d := ⟨fun K => ga K "_law_second_of", "_law_second_of", "_law_second_of", defArgs Lw.s_l_second_of, defBody Lw.s_l_second_of, defScope Lw.s_l_second_of, [], []⟩)
  obtain ⟨fd_l_same, F_l_same⟩ := c.def_ 24 (d := ⟨fun K => ga K "_law_same", "_law_same", "_law_same", defArgs Lw.s_l_same, defBody Lw.s_l_same, defScope Lw.s_l_same, [], []⟩)
  obtain ⟨fd_is_integer, F_is_integer⟩ := c.def_ 0 (d := ⟨fun K => ga K "is_integer", "is_integer", "is_integer", defArgs Lw.s_is_integer, defBody Lw.s_is_integer, defScope Lw.s_is_integer, [.non, .non], []⟩)
  obtain ⟨fd_ratio, F_ratio⟩ := c.def_ 1 (d := ⟨fun K => ga K "ratio", "ratio", "ratio", defArgs Lw.s_ratio, defBody Lw.s_ratio, defScope Lw.s_ratio, [.int 1], []⟩)
  obtain ⟨fd_is_ratio, F_is_ratio⟩ := c.def_ 2 (d := ⟨fun K => ga K "is_ratio", "is_ratio", "is_ratio", defArgs Lw.s_is_ratio, defBody Lw.s_is_ratio, defScope Lw.s_is_ratio, [], []⟩)
  obtain ⟨fd_plus, F_plus⟩ := c.def_ 3 (d := ⟨fun K => ga K "plus", "plus", "plus", defArgs Lw.s_plus, defBody Lw.s_plus, defScope Lw.s_plus, [], []⟩)
  obtain ⟨fd_minus, F_minus⟩ := c.def_ 4 (d := ⟨fun K => ga K "minus", "minus", "minus", defArgs Lw.s_minus, defBody Lw.s_minus, defScope Lw.s_minus, [], []⟩)
  obtain ⟨fd_times, F_times⟩ := c.def_ 5 (d := ⟨fun K => ga K "times", "times", "times", defArgs Lw.s_times, defBody Lw.s_times, defScope Lw.s_times, [], []⟩)
  obtain ⟨fd_over, F_over⟩ := c.def_ 6 (d := ⟨fun K => ga K "over", "over", "over", defArgs Lw.s_over, defBody Lw.s_over, defScope Lw.s_over, [], []⟩)
  obtain ⟨fd_compare, F_compare⟩ := c.def_ 7 (d := ⟨fun K => ga K "compare", "compare", "compare", defArgs Lw.s_compare, defBody Lw.s_compare, defScope Lw.s_compare, [], []⟩)
  obtain ⟨fd_write_ratio, F_write_ratio⟩ := c.def_ 8 (d := ⟨fun K => ga K "write_ratio", "write_ratio", "write_ratio", defArgs Lw.s_write_ratio, defBody Lw.s_write_ratio, defScope Lw.s_write_ratio, [], []⟩)
  obtain ⟨fd_is_number_text, F_is_number_text⟩ := c.def_ 9 (d := ⟨fun K => ga K "is_number_text", "is_number_text", "is_number_text", defArgs Lw.s_is_number_text, defBody Lw.s_is_number_text, defScope Lw.s_is_number_text, [], []⟩)
  obtain ⟨fd_read_ratio, F_read_ratio⟩ := c.def_ 10 (d := ⟨fun K => ga K "read_ratio", "read_ratio", "read_ratio", defArgs Lw.s_read_ratio, defBody Lw.s_read_ratio, defScope Lw.s_read_ratio, [], []⟩)
  obtain ⟨fd_l_ratio_told, F_l_ratio_told⟩ := c.def_ 25 (d := ⟨fun K => ga K "_law_ratio_told", "_law_ratio_told", "_law_ratio_told", defArgs Lw.s_l_ratio_told, defBody Lw.s_l_ratio_told, defScope Lw.s_l_ratio_told, [], []⟩)
  obtain ⟨fd_l_over_told, F_l_over_told⟩ := c.def_ 26 (d := ⟨fun K => ga K "_law_over_told", "_law_over_told", "_law_over_told", defArgs Lw.s_l_over_told, defBody Lw.s_l_over_told, defScope Lw.s_l_over_told, [], []⟩)
  obtain ⟨fd_l_read_told, F_l_read_told⟩ := c.def_ 27 (d := ⟨fun K => ga K "_law_read_told", "_law_read_told", "_law_read_told", defArgs Lw.s_l_read_told, defBody Lw.s_l_read_told, defScope Lw.s_l_read_told, [], []⟩)
  obtain ⟨fd_l_right_making, F_l_right_making⟩ := c.def_ 28 (d := ⟨fun K => ga K "_law_right_making", "_law_right_making", "_law_right_making", defArgs Lw.s_l_right_making, defBody Lw.s_l_right_making, defScope Lw.s_l_right_making, [], []⟩)
  obtain ⟨fd_l_right_reckoning, F_l_right_reckoning⟩ := c.def_ 29 (d := ⟨fun K => ga K "_law_right_reckoning", "_law_right_reckoning", "_law_right_reckoning", defArgs Lw.s_l_right_reckoning, defBody Lw.s_l_right_reckoning, defScope Lw.s_l_right_reckoning, [], []⟩)
  obtain ⟨fd_l_text_of, F_l_text_of⟩ := c.def_ 30 (d := ⟨fun K => ga K "_law_text_of", "_law_text_of", "_law_text_of", defArgs Lw.s_l_text_of, defBody Lw.s_l_text_of, defScope Lw.s_l_text_of, [], []⟩)
  obtain ⟨fd_l_figures, F_l_figures⟩ := c.def_ 31 (d := ⟨fun K => ga K "_law_figures", "_law_figures", "_law_figures", defArgs Lw.s_l_figures, defBody Lw.s_l_figures, defScope Lw.s_l_figures, [], []⟩)
  obtain ⟨fd_l_value_of, F_l_value_of⟩ := c.def_ 32 (d := ⟨fun K => ga K "_law_value_of", "_law_value_of", "_law_value_of", defArgs Lw.s_l_value_of, defBody Lw.s_l_value_of, defScope Lw.s_l_value_of, [], []⟩)
  obtain ⟨fd_l_right_reading, F_l_right_reading⟩ := c.def_ 33 (d := ⟨fun K => ga K "_law_right_reading", "_law_right_reading", "_law_right_reading", defArgs Lw.s_l_right_reading, defBody Lw.s_l_right_reading, defScope Lw.s_l_right_reading, [], []⟩)
  obtain ⟨fd_l_spoilt, F_l_spoilt⟩ := c.def_ 34 (d := ⟨fun K => ga K "_law_spoilt", "_law_spoilt", "_law_spoilt", defArgs Lw.s_l_spoilt, defBody Lw.s_l_spoilt, defScope Lw.s_l_spoilt, [], []⟩)
  obtain ⟨fd_l_odd_texts, F_l_odd_texts⟩ := c.def_ 35 (d := ⟨fun K => ga K "_law_odd_texts", "_law_odd_texts", "_law_odd_texts", defArgs Lw.s_l_odd_texts, defBody Lw.s_l_odd_texts, defScope Lw.s_l_odd_texts, [], []⟩)
  obtain ⟨fd_l_odd_things, F_l_odd_things⟩ := c.def_ 36 (d := ⟨fun K => ga K "_law_odd_things", "_law_odd_things", "_law_odd_things", defArgs Lw.s_l_odd_things, defBody Lw.s_l_odd_things, defScope Lw.s_l_odd_things, [], []⟩)
  obtain ⟨fd_l_right_texts, F_l_right_texts⟩ := c.def_ 37 (d := ⟨fun K => ga K "_law_right_texts", "_law_right_texts", "_law_right_texts", defArgs Lw.s_l_right_texts, defBody Lw.s_l_right_texts, defScope Lw.s_l_right_texts, [], []⟩)
  obtain ⟨fd_l_right_kinds, F_l_right_kinds⟩ := c.def_ 38 (d := ⟨fun K => ga K "_law_right_kinds", "_law_right_kinds", "_law_right_kinds", defArgs Lw.s_l_right_kinds, defBody Lw.s_l_right_kinds, defScope Lw.s_l_right_kinds, [], []⟩)
  obtain ⟨fd_law, F_law⟩ := c.def_ 39 (d := ⟨fun K => ga K "law", "law", "law", defArgs Lw.s_law, defBody Lw.s_law, defScope Lw.s_law, [], []⟩)
  have e := hfa.symm.trans (glo_ok X G (x := "law") (c.fact 82 (f := Hk.fa (.glo "law"))))
  cases e
  refine ⟨fd_law, fun s v => FunD.bindsA (ps := ["_law_script"]) F_law (fun _ _ _ _ _ _ us hl => match us, hl with | [_], _ => rfl) s [v] rfl, fun base => ?_⟩
  have g_l_pick := Lw.ok_l_pick (P := L.prog) (w := w) (base := base) T  F_l_pick
  have c_l_pick := cal_mk g_l_pick (glo_ok X G (x := "_law_pick") (c.fact 55 (f := Hk.fa (.glo "_law_pick")))) F_l_pick.kp (FunD.bindsN (ps := Lw.P_l_pick) F_l_pick fun _ _ _ _ _ _ us hl => match us, hl with | [_, _], _ => rfl) .nil
  have g_l_one_in := Lw.ok_l_one_in (P := L.prog) (w := w) (base := base) T c_l_pick F_l_one_in
  have c_l_one_in := cal_mk g_l_one_in (glo_ok X G (x := "_law_one_in") (c.fact 57 (f := Hk.fa (.glo "_law_one_in")))) F_l_one_in.kp (FunD.bindsN (ps := Lw.P_l_one_in) F_l_one_in fun _ _ _ _ _ _ us hl => match us, hl with | [_, _], _ => rfl) .nil
  have g_l_choice := Lw.ok_l_choice (P := L.prog) (w := w) (base := base) T c_l_pick F_l_choice
  have c_l_choice := cal_mk g_l_choice (glo_ok X G (x := "_law_choice") (c.fact 56 (f := Hk.fa (.glo "_law_choice")))) F_l_choice.kp (FunD.bindsN (ps := Lw.P_l_choice) F_l_choice fun _ _ _ _ _ _ us hl => match us, hl with | [_, _], _ => rfl) .nil
  have g_l_bag_of := Lw.ok_l_bag_of (P := L.prog) (w := w) (base := base) T  F_l_bag_of
  have c_l_bag_of := cal_mk g_l_bag_of (glo_ok X G (x := "_law_bag_of") (c.fact 54 (f := Hk.fa (.glo "_law_bag_of")))) F_l_bag_of.kp (FunD.bindsN (ps := Lw.P_l_bag_of) F_l_bag_of fun _ _ _ _ _ _ us hl => match us, hl with | [_], _ => rfl) .nil
  have g_l_integer := Lw.ok_l_integer (P := L.prog) (w := w) (base := base) T  F_l_integer
  have c_l_integer := cal_mk g_l_integer (glo_ok X G (x := "_law_integer") (c.fact 58 (f := Hk.fa (.glo "_law_integer")))) F_l_integer.kp (FunD.bindsN (ps := Lw.P_l_integer) F_l_integer fun _ _ _ _ _ _ us hl => match us, hl with | [_], _ => rfl) .nil
  have g_l_gcd := Lw.ok_l_gcd (P := L.prog) (w := w) (base := base) T  F_l_gcd
  have c_l_gcd := cal_mk g_l_gcd (glo_ok X G (x := "_law_gcd") (c.fact 59 (f := Hk.fa (.glo "_law_gcd")))) F_l_gcd.kp (FunD.bindsN (ps := Lw.P_l_gcd) F_l_gcd fun _ _ _ _ _ _ us hl => match us, hl with | [_, _], _ => rfl) .nil
  have g_l_ratio := Lw.ok_l_ratio (P := L.prog) (w := w) (base := base) T c_l_gcd F_l_ratio
  have c_l_ratio := cal_mk g_l_ratio (glo_ok X G (x := "_law_ratio") (c.fact 60 (f := Hk.fa (.glo "_law_ratio")))) F_l_ratio.kp (FunD.bindsN (ps := Lw.P_l_ratio) F_l_ratio fun _ _ _ _ _ _ us hl => match us, hl with | [_, _], _ => rfl) .nil
  have g_l_plus := Lw.ok_l_plus (P := L.prog) (w := w) (base := base) T c_l_ratio F_l_plus
  have c_l_plus := cal_mk g_l_plus (glo_ok X G (x := "_law_plus") (c.fact 61 (f := Hk.fa (.glo "_law_plus")))) F_l_plus.kp (FunD.bindsN (ps := Lw.P_l_plus) F_l_plus fun _ _ _ _ _ _ us hl => match us, hl with | [_, _], _ => rfl) .nil
  have g_l_minus := Lw.ok_l_minus (P := L.prog) (w := w) (base := base) T c_l_ratio F_l_minus
  have c_l_minus := cal_mk g_l_minus (glo_ok X G (x := "_law_minus") (c.fact 62 (f := Hk.fa (.glo "_law_minus")))) F_l_minus.kp (FunD.bindsN (ps := Lw.P_l_minus) F_l_minus fun _ _ _ _ _ _ us hl => match us, hl with | [_, _], _ => rfl) .nil
  have g_l_times := Lw.ok_l_times (P := L.prog) (w := w) (base := base) T c_l_ratio F_l_times
  have c_l_times := cal_mk g_l_times (glo_ok X G (x := "_law_times") (c.fact 63 (f := Hk.fa (.glo "_law_times")))) F_l_times.kp (FunD.bindsN (ps := Lw.P_l_times) F_l_times fun _ _ _ _ _ _ us hl => match us, hl with | [_, _], _ => rfl) .nil
  have g_l_over := Lw.ok_l_over (P := L.prog) (w := w) (base := base) T c_l_ratio F_l_over
  have c_l_over := cal_mk g_l_over (glo_ok X G (x := "_law_over") (c.fact 64 (f := Hk.fa (.glo "_law_over")))) F_l_over.kp (FunD.bindsN (ps := Lw.P_l_over) F_l_over fun _ _ _ _ _ _ us hl => match us, hl with | [_, _], _ => rfl) .nil
  have g_l_number_of := Lw.ok_l_number_of (P := L.prog) (w := w) (base := base) T c_l_one_in c_l_pick F_l_number_of
  have c_l_number_of := cal_mk g_l_number_of (glo_ok X G (x := "_law_number_of") (c.fact 65 (f := Hk.fa (.glo "_law_number_of")))) F_l_number_of.kp (FunD.bindsN (ps := Lw.P_l_number_of) F_l_number_of fun _ _ _ _ _ _ us hl => match us, hl with | [_], _ => rfl) .nil
  have g_l_second_of := Lw.ok_l_second_of (P := L.prog) (w := w) (base := base) T c_l_number_of c_l_pick c_l_ratio F_l_second_of
  have c_l_second_of := cal_mk g_l_second_of (glo_ok X G (x := "_law_second_of") (c.fact 66 (f := Hk.fa (.glo "_law_second_of")))) F_l_second_of.kp (FunD.bindsN (ps := Lw.P_l_second_of) F_l_second_of fun _ _ _ _ _ _ us hl => match us, hl with | [_, _], _ => rfl) .nil
  have g_l_same := Lw.ok_l_same (P := L.prog) (w := w) (base := base) T c_l_integer F_l_same
  have c_l_same := cal_mk g_l_same (glo_ok X G (x := "_law_same") (c.fact 67 (f := Hk.fa (.glo "_law_same")))) F_l_same.kp (FunD.bindsN (ps := Lw.P_l_same) F_l_same fun _ _ _ _ _ _ us hl => match us, hl with | [_, _], _ => rfl) .nil
  have g_is_integer := Lw.ok_is_integer (P := L.prog) (w := w) (base := base) T  F_is_integer
  obtain ⟨ds_is_integer_1, v_is_integer_1, b_is_integer_1⟩ := FunD.binds1 (ps := Lw.P_is_integer) F_is_integer 1 0 (List.cons_ne_nil _ _) rfl (fun T _ _ _ _ _ _ us its hu hi => match us, hu, its, hi with | [_], _, [_, _], _ => ⟨_, rfl, rfl⟩)
  have c_is_integer_1 : Cal L.prog w K mg base 1 "is_integer" Lw.P_is_integer [.non, .non] _ := cal_mk g_is_integer (glo_ok X G (x := "is_integer") (c.fact 43 (f := Hk.fa (.glo "is_integer")))) F_is_integer.kp b_is_integer_1 v_is_integer_1
  obtain ⟨ds_is_integer_2, v_is_integer_2, b_is_integer_2⟩ := FunD.binds1 (ps := Lw.P_is_integer) F_is_integer 2 1 (List.cons_ne_nil _ _) rfl (fun T _ _ _ _ _ _ us its hu hi => match us, hu, its, hi with | [_, _], _, [_, _], _ => ⟨_, rfl, rfl⟩)
  have c_is_integer_2 : Cal L.prog w K mg base 1 "is_integer" Lw.P_is_integer [.non] _ := cal_mk g_is_integer (glo_ok X G (x := "is_integer") (c.fact 43 (f := Hk.fa (.glo "is_integer")))) F_is_integer.kp b_is_integer_2 v_is_integer_2
  have g_ratio := Lw.ok_ratio (P := L.prog) (w := w) (base := base) T  F_ratio
  obtain ⟨ds_ratio_1, v_ratio_1, b_ratio_1⟩ := FunD.binds1 (ps := Lw.P_ratio) F_ratio 1 0 (List.cons_ne_nil _ _) rfl (fun T _ _ _ _ _ _ us its hu hi => match us, hu, its, hi with | [_], _, [_], _ => ⟨_, rfl, rfl⟩)
  have c_ratio_1 : Cal L.prog w K mg base 1 "ratio" Lw.P_ratio [.int 1] _ := cal_mk g_ratio (glo_ok X G (x := "ratio") (c.fact 44 (f := Hk.fa (.glo "ratio")))) F_ratio.kp b_ratio_1 v_ratio_1
  obtain ⟨ds_ratio_2, v_ratio_2, b_ratio_2⟩ := FunD.binds1 (ps := Lw.P_ratio) F_ratio 2 1 (List.cons_ne_nil _ _) rfl (fun T _ _ _ _ _ _ us its hu hi => match us, hu, its, hi with | [_, _], _, [_], _ => ⟨_, rfl, rfl⟩)
  have c_ratio_2 : Cal L.prog w K mg base 1 "ratio" Lw.P_ratio [] _ := cal_mk g_ratio (glo_ok X G (x := "ratio") (c.fact 44 (f := Hk.fa (.glo "ratio")))) F_ratio.kp b_ratio_2 v_ratio_2
  have g_is_ratio := Lw.ok_is_ratio (P := L.prog) (w := w) (base := base) T c_is_integer_1 c_is_integer_2 F_is_ratio
  have c_is_ratio := cal_mk g_is_ratio (glo_ok X G (x := "is_ratio") (c.fact 45 (f := Hk.fa (.glo "is_ratio")))) F_is_ratio.kp (FunD.bindsN (ps := Lw.P_is_ratio) F_is_ratio fun _ _ _ _ _ _ us hl => match us, hl with | [_], _ => rfl) .nil
  have g_plus := Lw.ok_plus (P := L.prog) (w := w) (base := base) T c_ratio_2 F_plus
  have c_plus := cal_mk g_plus (glo_ok X G (x := "plus") (c.fact 46 (f := Hk.fa (.glo "plus")))) F_plus.kp (FunD.bindsN (ps := Lw.P_plus) F_plus fun _ _ _ _ _ _ us hl => match us, hl with | [_, _], _ => rfl) .nil
  have g_minus := Lw.ok_minus (P := L.prog) (w := w) (base := base) T c_ratio_2 F_minus
  have c_minus := cal_mk g_minus (glo_ok X G (x := "minus") (c.fact 47 (f := Hk.fa (.glo "minus")))) F_minus.kp (FunD.bindsN (ps := Lw.P_minus) F_minus fun _ _ _ _ _ _ us hl => match us, hl with | [_, _], _ => rfl) .nil
  have g_times := Lw.ok_times (P := L.prog) (w := w) (base := base) T c_ratio_2 F_times
  have c_times := cal_mk g_times (glo_ok X G (x := "times") (c.fact 48 (f := Hk.fa (.glo "times")))) F_times.kp (FunD.bindsN (ps := Lw.P_times) F_times fun _ _ _ _ _ _ us hl => match us, hl with | [_, _], _ => rfl) .nil
  have g_over := Lw.ok_over (P := L.prog) (w := w) (base := base) T c_ratio_2 F_over
  have c_over := cal_mk g_over (glo_ok X G (x := "over") (c.fact 49 (f := Hk.fa (.glo "over")))) F_over.kp (FunD.bindsN (ps := Lw.P_over) F_over fun _ _ _ _ _ _ us hl => match us, hl with | [_, _], _ => rfl) .nil
  have g_compare := Lw.ok_compare (P := L.prog) (w := w) (base := base) T  F_compare
  have c_compare := cal_mk g_compare (glo_ok X G (x := "compare") (c.fact 50 (f := Hk.fa (.glo "compare")))) F_compare.kp (FunD.bindsN (ps := Lw.P_compare) F_compare fun _ _ _ _ _ _ us hl => match us, hl with | [_, _], _ => rfl) .nil
  have g_write_ratio := Lw.ok_write_ratio (P := L.prog) (w := w) (base := base) T  F_write_ratio
  have c_write_ratio := cal_mk g_write_ratio (glo_ok X G (x := "write_ratio") (c.fact 51 (f := Hk.fa (.glo "write_ratio")))) F_write_ratio.kp (FunD.bindsN (ps := Lw.P_write_ratio) F_write_ratio fun _ _ _ _ _ _ us hl => match us, hl with | [_], _ => rfl) .nil
  have g_is_number_text := Lw.ok_is_number_text (P := L.prog) (w := w) (base := base) T  F_is_number_text
  have c_is_number_text := cal_mk g_is_number_text (glo_ok X G (x := "is_number_text") (c.fact 52 (f := Hk.fa (.glo "is_number_text")))) F_is_number_text.kp (FunD.bindsN (ps := Lw.P_is_number_text) F_is_number_text fun _ _ _ _ _ _ us hl => match us, hl with | [_], _ => rfl) .nil
  have g_read_ratio := Lw.ok_read_ratio (P := L.prog) (w := w) (base := base) T c_is_number_text F_read_ratio
  have c_read_ratio := cal_mk g_read_ratio (glo_ok X G (x := "read_ratio") (c.fact 53 (f := Hk.fa (.glo "read_ratio")))) F_read_ratio.kp (FunD.bindsN (ps := Lw.P_read_ratio) F_read_ratio fun _ _ _ _ _ _ us hl => match us, hl with | [_], _ => rfl) .nil
  have g_l_ratio_told := Lw.ok_l_ratio_told (P := L.prog) (w := w) (base := base) T c_ratio_2 F_l_ratio_told
  have c_l_ratio_told := cal_mk g_l_ratio_told (glo_ok X G (x := "_law_ratio_told") (c.fact 68 (f := Hk.fa (.glo "_law_ratio_told")))) F_l_ratio_told.kp (FunD.bindsN (ps := Lw.P_l_ratio_told) F_l_ratio_told fun _ _ _ _ _ _ us hl => match us, hl with | [_, _], _ => rfl) .nil
  have g_l_over_told := Lw.ok_l_over_told (P := L.prog) (w := w) (base := base) T c_over F_l_over_told
  have c_l_over_told := cal_mk g_l_over_told (glo_ok X G (x := "_law_over_told") (c.fact 69 (f := Hk.fa (.glo "_law_over_told")))) F_l_over_told.kp (FunD.bindsN (ps := Lw.P_l_over_told) F_l_over_told fun _ _ _ _ _ _ us hl => match us, hl with | [_, _], _ => rfl) .nil
  have g_l_read_told := Lw.ok_l_read_told (P := L.prog) (w := w) (base := base) T c_read_ratio F_l_read_told
  have c_l_read_told := cal_mk g_l_read_told (glo_ok X G (x := "_law_read_told") (c.fact 70 (f := Hk.fa (.glo "_law_read_told")))) F_l_read_told.kp (FunD.bindsN (ps := Lw.P_l_read_told) F_l_read_told fun _ _ _ _ _ _ us hl => match us, hl with | [_], _ => rfl) .nil
  have g_l_right_making := Lw.ok_l_right_making (P := L.prog) (w := w) (base := base) T c_l_integer c_l_ratio c_l_ratio_told c_l_same c_ratio_1 c_ratio_2 F_l_right_making
  have c_l_right_making := cal_mk g_l_right_making (glo_ok X G (x := "_law_right_making") (c.fact 71 (f := Hk.fa (.glo "_law_right_making")))) F_l_right_making.kp (FunD.bindsN (ps := Lw.P_l_right_making) F_l_right_making fun _ _ _ _ _ _ us hl => match us, hl with | [_, _], _ => rfl) .nil
  have g_l_right_reckoning := Lw.ok_l_right_reckoning (P := L.prog) (w := w) (base := base) T c_compare c_l_integer c_l_minus c_l_over c_l_over_told c_l_plus c_l_same c_l_times c_minus c_plus c_times F_l_right_reckoning
  have c_l_right_reckoning := cal_mk g_l_right_reckoning (glo_ok X G (x := "_law_right_reckoning") (c.fact 72 (f := Hk.fa (.glo "_law_right_reckoning")))) F_l_right_reckoning.kp (FunD.bindsN (ps := Lw.P_l_right_reckoning) F_l_right_reckoning fun _ _ _ _ _ _ us hl => match us, hl with | [_, _], _ => rfl) .nil
  have g_l_text_of := Lw.ok_l_text_of (P := L.prog) (w := w) (base := base) T  F_l_text_of
  have c_l_text_of := cal_mk g_l_text_of (glo_ok X G (x := "_law_text_of") (c.fact 73 (f := Hk.fa (.glo "_law_text_of")))) F_l_text_of.kp (FunD.bindsN (ps := Lw.P_l_text_of) F_l_text_of fun _ _ _ _ _ _ us hl => match us, hl with | [_], _ => rfl) .nil
  have g_l_figures := Lw.ok_l_figures (P := L.prog) (w := w) (base := base) T  F_l_figures
  have c_l_figures := cal_mk g_l_figures (glo_ok X G (x := "_law_figures") (c.fact 74 (f := Hk.fa (.glo "_law_figures")))) F_l_figures.kp (FunD.bindsN (ps := Lw.P_l_figures) F_l_figures fun _ _ _ _ _ _ us hl => match us, hl with | [_], _ => rfl) .nil
  have g_l_value_of := Lw.ok_l_value_of (P := L.prog) (w := w) (base := base) T c_l_figures c_l_gcd F_l_value_of
  have c_l_value_of := cal_mk g_l_value_of (glo_ok X G (x := "_law_value_of") (c.fact 75 (f := Hk.fa (.glo "_law_value_of")))) F_l_value_of.kp (FunD.bindsN (ps := Lw.P_l_value_of) F_l_value_of fun _ _ _ _ _ _ us hl => match us, hl with | [_], _ => rfl) .nil
  have g_l_right_reading := Lw.ok_l_right_reading (P := L.prog) (w := w) (base := base) T c_l_read_told c_l_same c_l_value_of F_l_right_reading
  have c_l_right_reading := cal_mk g_l_right_reading (glo_ok X G (x := "_law_right_reading") (c.fact 76 (f := Hk.fa (.glo "_law_right_reading")))) F_l_right_reading.kp (FunD.bindsN (ps := Lw.P_l_right_reading) F_l_right_reading fun _ _ _ _ _ _ us hl => match us, hl with | [_], _ => rfl) .nil
  have g_l_spoilt := Lw.ok_l_spoilt (P := L.prog) (w := w) (base := base) T c_l_choice c_l_pick F_l_spoilt
  have c_l_spoilt := cal_mk g_l_spoilt (glo_ok X G (x := "_law_spoilt") (c.fact 77 (f := Hk.fa (.glo "_law_spoilt")))) F_l_spoilt.kp (FunD.bindsN (ps := Lw.P_l_spoilt) F_l_spoilt fun _ _ _ _ _ _ us hl => match us, hl with | [_, _], _ => rfl) .nil
  have g_l_odd_texts := Lw.ok_l_odd_texts (P := L.prog) (w := w) (base := base) T c_l_pick F_l_odd_texts
  have c_l_odd_texts := cal_mk g_l_odd_texts (glo_ok X G (x := "_law_odd_texts") (c.fact 78 (f := Hk.fa (.glo "_law_odd_texts")))) F_l_odd_texts.kp (FunD.bindsN (ps := Lw.P_l_odd_texts) F_l_odd_texts fun _ _ _ _ _ _ us hl => match us, hl with | [_], _ => rfl) .nil
  have g_l_odd_things := Lw.ok_l_odd_things (P := L.prog) (w := w) (base := base) T  F_l_odd_things
  have c_l_odd_things := cal_mk g_l_odd_things (glo_ok X G (x := "_law_odd_things") (c.fact 79 (f := Hk.fa (.glo "_law_odd_things")))) F_l_odd_things.kp (FunD.bindsN (ps := Lw.P_l_odd_things) F_l_odd_things fun _ _ _ _ _ _ us hl => match us, hl with | [], _ => rfl) .nil
  have g_l_right_texts := Lw.ok_l_right_texts (P := L.prog) (w := w) (base := base) T c_l_odd_texts c_l_odd_things c_l_read_told c_l_right_reading c_l_spoilt c_l_text_of c_write_ratio F_l_right_texts
  have c_l_right_texts := cal_mk g_l_right_texts (glo_ok X G (x := "_law_right_texts") (c.fact 80 (f := Hk.fa (.glo "_law_right_texts")))) F_l_right_texts.kp (FunD.bindsN (ps := Lw.P_l_right_texts) F_l_right_texts fun _ _ _ _ _ _ us hl => match us, hl with | [_, _], _ => rfl) .nil
  have g_l_right_kinds := Lw.ok_l_right_kinds (P := L.prog) (w := w) (base := base) T c_is_ratio c_l_gcd F_l_right_kinds
  have c_l_right_kinds := cal_mk g_l_right_kinds (glo_ok X G (x := "_law_right_kinds") (c.fact 81 (f := Hk.fa (.glo "_law_right_kinds")))) F_l_right_kinds.kp (FunD.bindsN (ps := Lw.P_l_right_kinds) F_l_right_kinds fun _ _ _ _ _ _ us hl => match us, hl with | [_, _, _, _], _ => rfl) .nil
  have g_law := Lw.ok_law (P := L.prog) (w := w) (base := base) T c_l_bag_of c_l_choice c_l_number_of c_l_one_in c_l_ratio c_l_right_kinds c_l_right_making c_l_right_reckoning c_l_right_texts c_l_second_of F_law
  exact g_law
end Hd
open PySem PySem.W PySem.Calls PyProof.Rows
theorem PySem.Challenge.cw_ellwarden_k01_ratios_holds : PySem.Challenge.rw_ellwarden_k01_ratios.Holds := by
  w_on; o_law
  refine HandSHeadRun.head_imp (r := Hd.R) (q := Hd.V) (H := Hd.hk) (ob := fun s => Hk.obsOG 5 Hd.fb Hd.fn Hd.xs (HandSHeadRun.getT s)) (M := 6000) (loose := Hd.names) (d := HandSHeadRun.topDef Hd.R.prog 48) (kwd := []) (fun s => Hk.obsOG_eq (HandSHeadRun.getT_eq s))
    Hd.run (by kernel_rfl) (by kernel_rfl) (by kernel_rfl) (by rfl) (by first | assumption | decide +kernel) (by decide +kernel) ⟨rfl, rfl, rfl, rfl, rfl, by decide +kernel⟩ ?hw ?hc
  case hw => w_witness2
  case hc =>
    refine Uv.walk_g (l := Hd.L) (n := 63) (k := 6) (x := "_law_script") rfl (by decide) (by kernel_rfl) ⟨rfl, by decide, by decide⟩ ?F
    intro w mg fa h Y G hmg0
    obtain ⟨K, KX, c⟩ := Y
    have hmg : mg ("law" : PySem.Str) = some (.ref fa) := by
      have e : (HandSHeadRun.topDef Hd.R.prog 48).name = ("law" : PySem.Str) := by kernel_rfl
      rw [← e]
      exact hmg0
    obtain ⟨fd, hb, hF⟩ := Hd.chain (w := w) KX G hmg c
    exact ⟨K, fd, _, KX, hb, fun H a ns hl hbits hS => ⟨a, ns, rfl, hS, hl, fun z hz => Uv.bits_log (hbits z hz), fun _ => rfl⟩, fun base _ _ => hF base⟩
