import PyProof.Rows.All
import Wide.All
import OpenK.AllK
import Wide.FinOn
import KE.KStateDown
import KE.KExcSuper
import KE.KIsAll
import Lean
import HandS.ForMost
import HandS.ForExc
import HandS.Head0
import HandS.Head1
import HandS.Head2
import HandS.Head3
import HandS.HeadEnd
import HandS.HeadHook1
import HandS.HeadHook2
import HandS.HeadNt
import HandS.Defaults
import HandS.Gcd
import HandS.FStr
import HandS.Wide
import HandS.EndBits
import HandS.ExcInit
import HandS.ExcIs
import HandS.ExcField
import HandS.IsInst
import HandS.Style
import HandS.TupAny
import HandS.TupLe
import HandS.Deep
import HandS.RaiseMore
import HandS.MakeKw
import HandS.TupMul
import HandS.HeadWalk
import HandS.Evl
import HandS.Zip
import HandS.ReplaceLit
import HandS.ReplaceList
import PySem.Challenge.RW_ellwarden_k02_product_texts

set_option Elab.async false
set_option linter.all false
set_option maxRecDepth 100000
set_option maxHeartbeats 4000000
namespace Uv
open PySem PySem.Spec L2
open PyProof.Rows hiding St

/-! ### a def's promise, asked where no repr is running -/
structure FnG (P : Program) (w : World) (K : PySem.W.Frag) (mg : Str → Option Value) (base : Heap) (k : Nat) (f : Addr) (fd : FuncData) (ps : List Str) (sp : Sp) : Prop where
  len : ∀ vs H Q E, sp vs H Q E → vs.length = ps.length
  run : ∀ (A : Around) (outer : List Env) (s : Shared) (H : Hp) (args : Args) (us : List Value) (vs : List V) (Q : VK) (E : XK), Room k A → A.guards = some [] → Env0 P w K mg base A outer s H → BindsTo s fd args (ps.zip us) → Vals vs us → sp vs H Q E →
    codeAny (model P w) A (.call (.ref f) args) (CR (L2.CX P w) outer P w H s Q E) s
theorem FnG.mono {P : Program} {w : World} {K : PySem.W.Frag} {mg : Str → Option Value} {base : Heap} {j k : Nat} {f : Addr} {fd : FuncData} {ps : List Str} {sp : Sp} (F : FnG P w K mg base j f fd ps sp) (h : j ≤ k) : FnG P w K mg base k f fd ps sp :=
  ⟨F.len, fun A outer s H args us vs Q E hr => F.run A outer s H args us vs Q E (hr.mono h)⟩
section
variable {P : Program} {w : World} {K : PySem.W.Frag} {mg : Str → Option Value} {base : Heap} {x qual : Str} {params : Arguments} {body : List Stmt} {scope : Scope} {dvs : List V} {kws : List (Str × V)} {f : Addr} {fd : FuncData}
/-- THE RULE for a def -/
theorem fng {N ps : List Str} {k : Nat} {sp : Sp} (F : FunD K x qual params body scope dvs kws f fd) (S : FnScope N ps scope) (len : ∀ vs H Q E, sp vs H Q E → vs.length = ps.length)
    (hbody : ∀ (cdv : Value) (A : Around) (outer : List Env) (s : Shared) (H : Hp) (vs : List V) (Q : VK) (E : XK), Room k (A.deeper (envOfC qual scope s.heap.objs.size f cdv)) → (A.deeper (envOfC qual scope s.heap.objs.size f cdv)).guards = some [] → sp vs H Q E →
      ∃ t, PSs (cxOf (L2.CX P w) P w K mg base N qual scope f cdv A outer s H E) body t ∧ t { nx := fun _ H' => Q .non H', rt := Q } (start N vs) H) : FnG P w K mg base (k + 1) f fd ps sp := by
  obtain ⟨oc, od, dV, kV, doc, pm, an, cdv, ct, osl, rfl, lk, hcd, _, _⟩ := F.ex
  refine ⟨len, fun A outer s H args us vs Q E hr hgd e0 hb r hsp => ?_⟩
  have hl := len _ _ _ _ hsp
  have KX : K.In s.heap := e0.mod.kin.keeps fun b o e => (e0.bs b o e).1
  have lim : s.heap.NoLimit := e0.mod.nolimit.keeps fun b o e => (e0.bs b o e).1
  have kinds : ∀ y ∈ ps.zip us, scope.names.lookup y.1 = some .local ∨ (scope.names.lookup y.1 = some .cell ∧ ((cellsFrom (s.heap.objs.size + 1) scope.names []).lookup y.1).isSome = true) := fun ⟨n, v⟩ hy => by
    rcases S.par n (List.of_mem_zip hy).1 with q | q
    · exact .inl q
    · exact .inr ⟨q, PySem.W.cellsFrom_some _ _ _ (.inl q)⟩
  refine codeAny_call_function hr.depth (KX _ _ lk) rfl S.co S.gen rfl (PySem.W.codeRec_of KX hcd) (hb _ _ _ _ ?_)
  refine wpAny_newFunctionEnv_cells S.kind kinds fun env he s1 z => ?_
  subst he
  refine ⟨lim.keeps z.toInCall.keep, codeAny_func ?_⟩
  obtain ⟨t, ht, hq⟩ := hbody cdv A outer s H vs Q E (hr.deeper _) hgd hsp
  have I : Inv (cxOf (L2.CX P w) P w K mg base N qual scope f cdv A outer s H E) [] (start N vs) H s1 := inv_start S hr.hd e0 hl r z
  refine wpAny_mono (ht.run [] s1 (start N vs) H _ I hq) (fun fl s' hs => ?_) fun e s' hs => hs
  have fin : ∀ {σ' : L2.St} {H' : Hp} {v : V} {u : Value}, Inv (cxOf (L2.CX P w) P w K mg base N qual scope f cdv A outer s H E) [] σ' H' s' → RelV v u → Q v H' → CE outer P w H s Q u s' :=
    fun {σ' H' v u} J rv q => ⟨v, H', J.os, J.bare, J.base, J.hok, rv, q⟩
  match fl, hs with
  | .ret u, hs => obtain ⟨v, σ', H', J, rv, q⟩ := hs; exact fin J rv q
  | .next, hs => obtain ⟨σ', H', J, q⟩ := hs; exact fin (v := V.non) (u := Value.none) J rfl q
  | .brk, hs => obtain ⟨_, _, _, q⟩ := hs; exact q.elim
  | .cont, hs => obtain ⟨_, _, _, q⟩ := hs; exact q.elim
end

/-! ### calls of defs by their names, whatever their defaults -/
structure Cal (P : Program) (w : World) (K : PySem.W.Frag) (mg : Str → Option Value) (base : Heap) (k : Nat) (x : Str) (ps : List Str) (dvs : List V) (sp : Sp) : Prop where
  ex : ∃ (f : Addr) (fd : FuncData) (ds : List Value), FnG P w K mg base k f fd ps sp ∧ mg x = some (.ref f) ∧ PySem.W.keepIn K (.ref f) = true ∧ Binds K fd ps ds ∧ Vals dvs ds
/-- nothing is let out -/
abbrev En : L2.St → XK := fun _ => E0
theorem paN {X : Cx} : ∀ σ, PassesAt (L2.CX X.prog X.w) X σ (En σ) := fun _ _ _ _ _ _ _ h => by
  obtain ⟨_, _, _, _, _, _, _, _, _, _, _, _, z⟩ := h
  exact z.elim
/-- room for k calls, no repr running -/
structure Rm (k : Nat) (A : Around) : Prop where
  r : Room k A
  g : A.guards = some []
theorem Rm.mono {j k : Nat} {A : Around} (h : Rm k A) (l : j ≤ k) : Rm j A := ⟨h.r.mono l, h.g⟩
def uCall (sp : Sp) (dvs : List V) (E : L2.St → XK) (t : TA) : TE := fun σ H Q => t σ H fun vs H1 => sp (vs ++ dvs) H1 Q (E σ)
section
variable {X : Cx} {k : Nat} {f C : Addr} {fd : FuncData} {ps : List Str} {sp : Sp} {E : L2.St → XK} {x m : Str} {p pos apos : Pos} {e o : Expr} {es : List Expr} {t : TA} {ta : TE} {dvs : List V} {ds : List Value}
theorem run_cal {pins : List (Addr × Obj)} {σ : L2.St} {H : Hp} {s : Shared} {Q : VK} {us : List Value} {vs : List V} (F : FnG X.prog X.w X.K X.mg X.base k f fd ps sp) (hr : Rm k X.A) (hb : Binds X.K fd ps ds) (hd : Vals dvs ds)
    (hx : PassesAt (L2.CX X.prog X.w) X σ (E σ)) (I : Inv X pins σ H s) (r : Vals vs us) (h : sp (vs ++ dvs) H Q (E σ)) : wpAny (model X.prog X.w) X.A (call (.ref f) us) (EP X pins σ Q) X.xe s := by
  have rr : Vals (vs ++ dvs) (us ++ ds) := r.append hd
  have ll : (us ++ ds).length = ps.length := rr.length.symm.trans (F.len _ _ _ _ h)
  refine wpAny_call (codeAny_mono (F.run X.A X.stack s H ⟨us, []⟩ (us ++ ds) (vs ++ dvs) Q (E σ) hr.r hr.g I.env0 (hb s us I.kIn ll) rr h) fun q s' hq => ?_)
  match q, hq with
  | .error er, hq => exact hx pins H s er s' I hq
  | .ok (.ret u), hq => exact I.after hq
  | .ok .next, hq => exact hq.elim
  | .ok .brk, hq => exact hq.elim
  | .ok .cont, hq => exact hq.elim
theorem pe_c (c : Cal X.prog X.w X.K X.mg X.base k x ps dvs sp) (hr : Rm k X.A) (hx : ∀ σ, PassesAt (L2.CX X.prog X.w) X σ (E σ)) (ha : PA X (e :: es) t) (hg : Gl X x := by rfl) (hdb : (x == ("__debug__" : Str)) = false := by decide)
    (he : starEach (e :: es) X.env = (false, eval e X.env) :: starEach es X.env := by rfl) (hpl : (backTo pos (starEach es X.env)).any (·.1) = false := by rfl) : PE X (.Call (.Name x p) (e :: es) [] pos) (uCall sp dvs E t) := by
  obtain ⟨f, fd, ds, F, hm, hk, hb, hd⟩ := c.ex
  exact ⟨fun pins s σ H Q I h => wpAny_Call_Name_kw (ld_glob I hg hm (PySem.W.callWith_K (h₀ := X.base) I.ok.mod.kin hk (thn (ha.run pos pins s σ H _ I h) fun us s1 z => by
    obtain ⟨vs, H1, I1, r, q⟩ := z
    exact ⟨I1.kIn, run_cal F hr hb hd (hx σ) I1 r q⟩) he hpl) hdb)⟩
theorem pe_c0 (c : Cal X.prog X.w X.K X.mg X.base k x ps dvs sp) (hr : Rm k X.A) (hx : ∀ σ, PassesAt (L2.CX X.prog X.w) X σ (E σ)) (hg : Gl X x := by rfl) (hdb : (x == ("__debug__" : Str)) = false := by decide) :
    PE X (.Call (.Name x p) [] [] pos) (uCall sp dvs E tNil) := by
  obtain ⟨f, fd, ds, F, hm, hk, hb, hd⟩ := c.ex
  exact ⟨fun pins s σ H Q I h => wpAny_Call_Name_kw (ld_glob I hg hm (PySem.W.callWith_K0 I.kIn hk (run_cal (us := []) F hr hb hd (hx σ) I .nil h)) hdb)⟩
end

/-! ### a tuple times 1 -/
theorem tuple_mul1 (l : Addr) (items : Array Value) (n : Nat) (dd : Option Addr) (sl : Array (Option Value)) (u : Tok) :
    Meets (Builtin.«tuple.__mul__» ⟨[.ref l, .int 1 u], []⟩) (fun _ R s => s.heap.get? l = some { cls := .type "tuple", dict := dd, data := .seq items n, slots := sl } ∧ R (.ok (.ret (Value.ref l))) s) :=
  .of_wp fun prog w A R s h => by
    obtain ⟨hp, g, d, tk, os⟩ := s
    obtain ⟨hl, h⟩ := h
    have f1 := AutoSeq1.idx_int
    have c0 : (decide ((1 : Int) < -(2 ^ 63)) || decide ((1 : Int) ≥ 2 ^ 63)) = false := by decide
    have c1 : (items.isEmpty || (1 : Int) == 1) = true := by simp
    wp_walk using wpAny_loadPart' hl
    repeat (first
      | (refine wpAny_ite_false (decide_eq_false (by rw [c0]; exact Bool.false_ne_true)) ?_; wp_walk using wpAny_loadPart' hl)
      | (refine wpAny_ite_true (decide_eq_true c1) ?_; wp_walk using wpAny_loadPart' hl))
    exact ⟨_, rfl, h⟩
def rRepT1 (K : PySem.W.Frag) : R2 := fun x y H Q => ∃ l xs, x = .ref l ∧ y = .int 1 ∧ SqT K H l xs ∧ Q (.ref l) H
theorem op_repT1 {X : Cx} : OpR X (binaryOp .Mult) (rRepT1 X.K) := by
  intro pins s σ H x y v u Q I rx ry h
  obtain ⟨l, xs, rfl, rfl, hT, q⟩ := h
  cases rx
  obtain ⟨t, rfl⟩ := ry
  obtain ⟨its, r, ⟨⟨cls, dd, data, sl⟩, ho, hc, n, hd⟩, hs⟩ := I.tuple hT
  simp only at hc hd
  subst hc hd
  exact wpAny_binaryOp_repeat_ref (T := "tuple") (U := "int") (by decide) ⟨_, ho, rfl⟩ (fun s' => typeIs_int s' 1 t) noFill_tuple_mul F.fills_int_mul F.slot_int_rmul repeat_tuple F.slot_int_index.lookup
    (call_meets F.slot_int_rmul (typeIs_int s 1 t) F.entry_int_rmul (F.args_int_rmul_2 _ _) (int_rmul_tuple 1 t l its.toArray n dd sl)
      ⟨ho, rfl, ⟨_, ho, rfl⟩, call_meets F.slot_tuple_mul ⟨_, ho, rfl⟩ F.entry_tuple_mul (F.args_tuple_mul_2 _ _) (tuple_mul1 l its.toArray n dd sl t) ⟨ho, ⟨.ref l, H, I, rfl, q⟩⟩⟩)

/-! ### operators that look at the kinds themselves -/
def uAdd (K : PySem.W.Frag) : R2 := fun x y H Q => match x, y with
  | .int i, .int j => Q (.int (i + j)) H
  | .str a, .str b => a.length + b.length ≤ sizeLine ∧ Q (.str (a ++ b)) H
  | .ref a, .ref b => rCat (.ref a) (.ref b) H Q ∨ rCatA K (.ref a) (.ref b) H Q
  | _, _ => False
def uMul (K : PySem.W.Frag) : R2 := fun x y H Q => match x, y with
  | .int i, .int j => (CMul i j ∨ CMulW i j) ∧ Q (.int (i * j)) H
  | .str a, .int n => MulOk a n ∧ Q (.str (Txt.mul a n)) H
  | .ref a, .int n => rRep (.ref a) (.int n) H Q ∨ rRepT K (.ref a) (.int n) H Q ∨ rRepT1 K (.ref a) (.int n) H Q
  | _, _ => False
def uDiv : R2 := fun x y H Q => match x, y with
  | .int i, .int j => (j ≠ 0 ∧ j.natAbs.log2 < 9000) ∧ Q (.int (i.fdiv j)) H
  | _, _ => False
def uEq (K : PySem.W.Frag) : R2 := fun x y H Q => match x, y with
  | .int i, .int j => Q (.bl (decide (i = j))) H
  | .str a, .str b => Q (.bl (decide (a = b))) H
  | .bl a, .bl b => Q (.bl (decide (a = b))) H
  | x, y => rEqD K x y H Q
def uNe (K : PySem.W.Frag) : R2 := fun x y H Q => match x, y with
  | .int i, .int j => Q (.bl (!decide (i = j))) H
  | .str a, .str b => Q (.bl (!decide (a = b))) H
  | .bl a, .bl b => Q (.bl (!decide (a = b))) H
  | x, y => rNeD K x y H Q
section
variable {X : Cx}
theorem op_uAdd : OpR X (binaryOp .Add) (uAdd X.K) := by
  intro pins s σ H x y u v Q I rx ry h
  cases x with
  | int i =>
    cases y with
    | int j => exact op_add pins s σ H _ _ _ _ Q I rx ry ⟨i, j, rfl, rfl, h⟩
    | _ => exact h.elim
  | str a =>
    cases y with
    | str b => exact op_add_str pins s σ H _ _ _ _ Q I rx ry ⟨a, b, rfl, rfl, h⟩
    | _ => exact h.elim
  | ref a =>
    cases y with
    | ref b =>
      rcases h with h | h
      · exact op_cat pins s σ H _ _ _ _ Q I rx ry h
      · exact op_catA pins s σ H _ _ _ _ Q I rx ry h
    | _ => exact h.elim
  | _ => exact h.elim
theorem op_uMul : OpR X (binaryOp .Mult) (uMul X.K) := by
  intro pins s σ H x y u v Q I rx ry h
  cases x with
  | int i =>
    cases y with
    | int j =>
      obtain ⟨c | c, q⟩ := h
      · exact op_mul pins s σ H _ _ _ _ Q I rx ry ⟨i, j, rfl, rfl, c, q⟩
      · exact op_mulW pins s σ H _ _ _ _ Q I rx ry ⟨i, j, rfl, rfl, c, q⟩
    | _ => exact h.elim
  | str a =>
    cases y with
    | int n =>
      obtain ⟨c, q⟩ := h
      obtain ⟨t, rfl⟩ := rx
      obtain ⟨t', rfl⟩ := ry
      exact SB.mul c fun t2 k => ⟨.str _, H, I.tok _, ⟨_, rfl⟩, q⟩
    | _ => exact h.elim
  | ref a =>
    cases y with
    | int n =>
      rcases h with h | h | h
      · exact op_rep pins s σ H _ _ _ _ Q I rx ry h
      · exact op_repT pins s σ H _ _ _ _ Q I rx ry h
      · exact op_repT1 pins s σ H _ _ _ _ Q I rx ry h
    | _ => exact h.elim
  | _ => exact h.elim
theorem op_uDiv : OpR X (binaryOp .FloorDiv) uDiv := by
  intro pins s σ H x y u v Q I rx ry h
  cases x with
  | int i =>
    cases y with
    | int j =>
      obtain ⟨c, q⟩ := h
      obtain ⟨t, rfl⟩ := rx
      obtain ⟨t', rfl⟩ := ry
      exact PyProof.Rows.floordiv_int c.1 ⟨.int _, H, I.tok _, ⟨_, rfl⟩, q⟩ (.inl (PyProof.noPylong_of_log2 c.2))
    | _ => exact h.elim
  | _ => exact h.elim
theorem dec_int (i j : Int) : decide (V.int i = V.int j) = decide (i = j) := decide_eq_decide.mpr ⟨fun e => V.int.inj e, fun e => by rw [e]⟩
theorem dec_str (i j : Str) : decide (V.str i = V.str j) = decide (i = j) := decide_eq_decide.mpr ⟨fun e => V.str.inj e, fun e => by rw [e]⟩
theorem dec_bl (i j : Bool) : decide (V.bl i = V.bl j) = decide (i = j) := decide_eq_decide.mpr ⟨fun e => V.bl.inj e, fun e => by rw [e]⟩
theorem op_uEq (hu : X.A.units + 64 < cLine) : OpR X (compareOp .Eq) (uEq X.K) := by
  intro pins s σ H x y u v Q I rx ry h
  cases x with
  | int i =>
    cases y with
    | int j => exact op_eq pins s σ H _ _ _ _ Q I rx ry ⟨rfl, by rw [dec_int]; exact h⟩
    | _ => exact op_eqD hu pins s σ H _ _ _ _ Q I rx ry h
  | str i =>
    cases y with
    | str j => exact op_eq pins s σ H _ _ _ _ Q I rx ry ⟨rfl, by rw [dec_str]; exact h⟩
    | _ => exact op_eqD hu pins s σ H _ _ _ _ Q I rx ry h
  | bl i =>
    cases y with
    | bl j => exact op_eq pins s σ H _ _ _ _ Q I rx ry ⟨rfl, by rw [dec_bl]; exact h⟩
    | _ => exact op_eqD hu pins s σ H _ _ _ _ Q I rx ry h
  | _ => exact op_eqD hu pins s σ H _ _ _ _ Q I rx ry h
theorem op_uNe (hu : X.A.units + 64 < cLine) : OpR X (compareOp .NotEq) (uNe X.K) := by
  intro pins s σ H x y u v Q I rx ry h
  cases x with
  | int i =>
    cases y with
    | int j => exact op_ne pins s σ H _ _ _ _ Q I rx ry ⟨rfl, by rw [dec_int]; exact h⟩
    | _ => exact op_neD hu pins s σ H _ _ _ _ Q I rx ry h
  | str i =>
    cases y with
    | str j => exact op_ne pins s σ H _ _ _ _ Q I rx ry ⟨rfl, by rw [dec_str]; exact h⟩
    | _ => exact op_neD hu pins s σ H _ _ _ _ Q I rx ry h
  | bl i =>
    cases y with
    | bl j => exact op_ne pins s σ H _ _ _ _ Q I rx ry ⟨rfl, by rw [dec_bl]; exact h⟩
    | _ => exact op_neD hu pins s σ H _ _ _ _ Q I rx ry h
  | _ => exact op_neD hu pins s σ H _ _ _ _ Q I rx ry h
end
end Uv

set_option Elab.async false
set_option linter.all false
set_option maxRecDepth 100000
set_option maxHeartbeats 4000000
namespace Xc
open PySem PySem.W PySem.Calls PyProof.Rows PySem.HandSPX

/-! ### the text of such an __init__: super().__init__(msg); self.f = f; .. -/
/-- self.f = f -/
def sto (f : Str) (q1 q2 q3 q4 : Pos) : Stmt := .Assign [.Attribute (.Name "self" q1) f q2] (.Name f q3) q4
inductive Stos : List Stmt → List Str → Prop
  | nil : Stos [] []
  | cons {ss : List Stmt} {fs : List Str} (f : Str) (q1 q2 q3 q4 : Pos) (r : Stos ss fs) : Stos (sto f q1 q2 q3 q4 :: ss) (f :: fs)
/-- super().__init__(msg) -/
def sup (msg : Str) (k : Nat) (p0 p1 p2 p3 p4 p5 : Pos) : Stmt := .Expr (.Call (.Attribute (.Call (.Name "super" p0) [] [] p1) "__init__" p2) [.Constant (.str msg) k p3] [] p4) p5
def argOf (f : Str) (p : Pos) : Arg := { arg := f, annotation := none, pos := p }
/-- what the written part says of the class at C (named x), its __init__ at fI -/
structure Txt (P : Program) (K : Frag) (mg : Str → Option Value) (x : Str) (fs : List Str) (C : Addr) : Prop where
  gC : mg x = some (.ref C)
  cls : ∃ nm q N bs bm sn sub ab col dd k0 k1 k2 k3 k5, K.lookup C = some (excClassObj nm q C N bs bm true sn sub ab col dd k0 k1 k2 k3 k5 "ValueError.__new__") ∧ refsVE bm = true
  sa : findIn K (.ref C) "__setattr__" = some (some (.builtin "object.__setattr__"))
  ga : findIn K (.ref C) "__getattribute__" = some (some (.builtin "BaseException.__getattribute__"))
  gg : findIn K (.ref C) "__getattr__" = some none
  noF : ∀ f ∈ fs, findIn K (.ref C) f = some none
  kC : keepIn K (.ref C) = true
  exC : subIn K (.ref C) (.type "BaseException") = some true
  veC : subIn K (.ref C) (.type "ValueError") = some true
  tyC : typeIn K (.ref C) = some (.type "type")
  hdC : hasDictIn K C = true
  self : mroIn K C (.ref C) = some true
  up : ks_superIn K C C "__init__" = some (some (.builtin "ValueError.__init__"))
  opq : nsIn K cStatics "thirdparty.any" = some none
  sup : mg "super" = none
  nd : ("self" :: fs : List Str).Nodup
  file : (P.main.scope.names.lookup ("super" : Str)).isSome = false
  fn : ∃ (fI cda cc : Addr) (oc : Value) (od : Option Addr) (osl : Array (Option Value)) (dV kV doc pm : Value) (an : Option Addr) (ct : Value) (msg : Str) (k : Nat) (p0 p1 p2 p3 p4 p5 : Pos) (ss : List Stmt) (ar : Arguments) (sc : Scope) (pa : Arg),
    findIn K (.ref C) "__init__" = some (some (.ref fI)) ∧ typeIn K (.ref fI) = some (.type "function") ∧ Stos ss fs ∧
    K.lookup fI = some ⟨oc, od, .func (ksFn "__init__" (x ++ ".__init__") ar (Xc.sup msg k p0 p1 p2 p3 p4 p5 :: ss) sc dV kV doc pm an (.ref cda) ct cc), osl⟩ ∧
    (ar.posonlyargs ++ ar.args).head? = some pa ∧ pa.arg = "self" ∧
    (∀ us : List Value, us.length = fs.length + 1 → bindArgs (ksFn "__init__" (x ++ ".__init__") ar (Xc.sup msg k p0 p1 p2 p3 p4 p5 :: ss) sc dV kV doc pm an (.ref cda) ct cc) ⟨us, []⟩ = pure ((("self" : Str) :: fs).zip us)) ∧
    (sc.kind = .function ∧ sc.isCoroutine = false ∧ sc.isGenerator = false ∧ (∀ y ∈ sc.names, y.2 ≠ .cell) ∧ sc.names.lookup ("self" : Str) = some .local ∧ (∀ f ∈ fs, sc.names.lookup f = some .local ∧ (f == ("__debug__" : Str)) = false) ∧
      sc.names.lookup ("super" : Str) = some .globalImplicit ∧ sc.names.lookup ("__class__" : Str) = some .free) ∧
    codeIn K (.ref cda) (x ++ ".__init__") = true ∧ (p2.endLine == p4.line) = true ∧
    (∃ ccl cdd vs ccs file tf, K.lookup cda = some ⟨ccl, cdd, .fields vs, ccs⟩ ∧ vs[2]? = some (.str file tf) ∧ ((P.main.file : Str) == file) = true) ∧
    ∃ cl cld csl, K.lookup cc = some ⟨cl, cld, .cell (some (.ref C)), csl⟩

theorem ldm {M : Model} {s : Shared} {env : Env} {m : Str → Option Value} {x : Str} {pos : Pos} {v : Value} {Q : Value → Shared → Prop} {A : Around} {E : Value → Shared → Prop} (hn : s.heap.Ns env.locals m) (hv : m x = some v) (h : Q v s)
    (hk : env.scope.kind = .function) (hl : env.kindOf x = some .local) (hd : (x == ("__debug__" : Str)) = false) : wpAny M A (eval (.Name x pos) env) Q E s := wpAny_Name (wpAny_loadName_local hk hl hn hv h) hd

section
variable {prog : Program} {w : World} {A : Around} {E : Value → Shared → Prop} {h : Heap} {g : Array GenState} {d : Drawn} {t : Nat} {os : OsState}
variable {nm q : Str} {C N : Addr} {bs bm : List Value} {sn : List Str} {sub : List Value} {ab : Bool} {col : Option Bool} {dd : Option Addr} {k0 k1 k2 k3 k5 : Option Value}
/-- the bound built-in __init__ called -/
theorem call_wrap {u e t0 : Addr} {rest : List Value} {Q : Value → Shared → Prop}
    (hC : h.get? C = some (excClassObj nm q C N bs bm true sn sub ab col dd k0 k1 k2 k3 k5 "ValueError.__new__")) (he : h.get? e = some (excO C t0)) (hu : h.get? u = some (kxs_mw "ValueError.__init__" e)) (hrest : rest.length ≤ sizeLine)
    (hq : ∀ h' t1, (∀ b o, b ≠ e → h.get? b = some o → h'.get? b = some o) → h'.get? e = some (excO C t1) → Q .none ⟨h', g, d, t, os⟩) :
    wpAny (model prog w) A (call (.ref u) rest) Q E ⟨h, g, d, t, os⟩ := by
  refine wpAny_call (codeAny_of_tree ?_)
  show wpAny _ A.in1 (callAny (.ref u) ⟨rest, []⟩) _ _ _
  simp only [callAny]
  refine wpAny_bind (wpAny_load hu ?_)
  simp only [kxs_mw, show (Value.type "method-wrapper" == Value.type "method" || Value.type "method-wrapper" == Value.type "builtin_function_or_method" || Value.type "method-wrapper" == Value.type "method-wrapper") = true by decide, if_true]
  refine KFB.if_so (by decide) ?_
  refine wpAny_bind (check_bound_init F.excBase_ValueError.toExcCallFacts hC he rfl ?_)
  refine wpAny_bind (wpAny_pure (wpAny_pure ?_))
  refine ⟨plainId_quiet F.excBase_ValueError.init.plain _, codeAny_builtin F.excBase_ValueError.initEntry ?_⟩
  exact exc_init_tree (cls := .ref C) (t0 := t0) (dv := none) (c2 := .none) (c3 := .none) (b4 := .bool false) he hrest fun h' k e' _ => hq h' _ k e'
end

section
variable {prog : Program} {w : World} {A : Around} {E : Value → Shared → Prop} {s : Shared} {K : Frag} {C : Addr}
/-- the stores behind the first -/
theorem more {env : Env} {x dx t1 : Addr} {Q : Flow → Shared → Prop} {nmC qC : Str} {N : Addr} {bs bm : List Value} {sn : List Str} {sub : List Value} {ab : Bool} {col : Option Bool}
    (hcl : clsIn K C = some { name := nmC, bases := bs, mro := .ref C :: bm, ns := N, qualname := qC, hasDict := true, slotNames := sn, subclasses := sub, abstract := ab, collection := col, hasDel := false }) (hbm : refsVE bm = true)
    (sa : findIn K (.ref C) "__setattr__" = some (some (.builtin "object.__setattr__")))
    (hk : env.scope.kind = .function) (hself : env.kindOf "self" = some .local) {m : Str → Option Value} (ms : m "self" = some (.ref x)) :
    ∀ (ss : List Stmt) (fs : List Str) (us : List Value) (s : Shared) (nl : List Str) (m0 : Str → Option Value) (ps : List (Str × L2.V)) (vs : List L2.V), Stos ss fs → K.In s.heap → (∀ f ∈ fs, findIn K (.ref C) f = some none ∧ env.kindOf f = some .local ∧ (f == ("__debug__" : Str)) = false) →
      fs.map m = us.map some → Paired L2.RelV vs us → s.heap.Ns env.locals m → dx ≠ env.locals → K.lookup dx = none → s.heap.get? x = some { cls := .ref C, dict := some dx, data := .fields #[.ref t1, .none, .none, .none, .bool false, .none] } → s.heap.Ns1 dx m0 → dx ≠ x → Within m0 nl → nl.length + fs.length ≤ 900 →
      (∀ f, L2.RelO (ps.lookup f) (m0 f)) →
      (∀ h' tk mA, (∀ b o, b ≠ dx → s.heap.get? b = some o → h'.get? b = some o) → h'.Ns1 dx mA → (∀ f, L2.RelO (((fs.zip vs).reverse ++ ps).lookup f) (mA f)) → Q .next { s with heap := h', toks := tk }) →
      wpAny (model prog w) A (execs ss env) Q E s := by
  intro ss
  induction ss with
  | nil =>
    intro fs us s nl m0 ps vs S X _ _ _ _ _ _ hx hn _ _ _ rel hq
    cases S
    exact wpAny_execs_nil (hq s.heap s.toks m0 (fun _ _ _ e => e) hn (by simpa using rel))
  | cons st ss ih =>
    intro fs us s nl m0 ps vs S X hf hm hv hns hdl hkd hx hn hdx hw hz rel hq
    cases S with
    | @cons _ fs' f q1 q2 q3 q4 r =>
    match us, vs, hv, hm with
    | u :: us, v :: vs, .cons rv rvs, hm =>
    have hmu : m f = some u := by simpa using congrArg List.head? hm
    have hmr : fs'.map m = us.map some := by simpa using congrArg List.tail hm
    obtain ⟨nof, kf, df⟩ := hf f List.mem_cons_self
    refine wpAny_execs_cons (plainObj_wpAny_Assign_Attribute ?_)
    refine ldm hns hmu (ldm hns ms ?_ hk hself (by decide)) hk kf df
    obtain ⟨oD, esD, epD, hoD, hdD, _⟩ := hn.count hw
    obtain ⟨hp, g, d, t, os⟩ := s
    refine set_plain X (ox := { cls := .ref C, dict := some dx, data := .fields #[.ref t1, .none, .none, .none, .bool false, .none] }) (od := some oD) ⟨hx, rfl, rfl, hoD⟩ sa ?_
    refine PySem.OEX.osa_old X hx hn hw (by simp only [List.length_cons] at hz; omega) hcl (show refsVE (.ref C :: bm) = true from hbm) rfl nof fun h' tk' k hn' => ?_
    refine ih fs' us ⟨h', g, d, tk', os⟩ (f :: nl) _ ((f, v) :: ps) vs r (fun a o e => k a o (fun z => by rw [z, hkd] at e; cases e) (X a o e)) (fun y hy => hf y (List.mem_cons_of_mem _ hy)) hmr rvs ?_ hdl hkd ?_ hn' hdx (Within.cons f u hw) (by simp only [List.length_cons] at hz ⊢; omega) (L2.relO_put rv rel) ?_
    · obtain ⟨o, es, ep, ho, hr⟩ := hns
      exact ⟨o, es, ep, k _ _ (Ne.symm hdl) ho, hr⟩
    · exact k _ _ (Ne.symm hdx) hx
    · intro h2 tk2 mA k2 hn2 rel2
      refine hq h2 tk2 mA (fun b o hb e => k2 b o hb (k b o hb e)) hn2 fun y => ?_
      have z := rel2 y
      simpa [List.append_assoc] using z
/-- a made exception of the class at C with its fields -/
structure Made (h h' : Heap) (e C d : Addr) (fs : List Str) (vs : List L2.V) : Prop where
  keep : ∀ b o, h.get? b = some o → h'.get? b = some o
  new : h.objs.size ≤ e
  obj : ∃ oe vs, h'.get? e = some oe ∧ oe.cls = .ref C ∧ oe.dict = some d ∧ oe.data = .fields vs ∧ vs[1]? = some .none
  dbig : h.objs.size ≤ d
  dne : d ≠ e
  ns : ∃ mA, h'.Ns1 d mA ∧ ∀ f, L2.RelO ((fs.zip vs).reverse.lookup f) (mA f)
theorem lookup_zip : ∀ {ns : List Str} {us : List Value} {i : Nat} {n : Str} {u : Value}, ns.Nodup → ns[i]? = some n → us[i]? = some u → ns.length = us.length → (ns.zip us).lookup n = some u
  | [], _, i, _, _, _, h, _, _ => by simp at h
  | n :: ns, [], i, _, _, _, _, h, _ => by simp at h
  | n :: ns, u :: us, 0, _, _, _, h1, h2, _ => by
    simp at h1 h2
    subst h1 h2
    simp [List.lookup]
  | n :: ns, u :: us, i + 1, n', u', nd, h1, h2, hl => by
    have h1' : ns[i]? = some n' := by simpa using h1
    have nn : n' ≠ n := fun e => by
      have z := (List.nodup_cons.mp nd).1
      rw [← e] at z
      exact z (List.mem_of_getElem? h1')
    have q : (n' == n) = false := by simpa using nn
    show List.lookup n' ((n, u) :: ns.zip us) = some u'
    simp only [List.lookup, q]
    exact lookup_zip (List.nodup_cons.mp nd).2 h1' (by simpa using h2) (by simpa using hl)
theorem lookup_none : ∀ {l : List (Str × Value)} {n : Str}, n ∉ l.map (·.1) → l.lookup n = none
  | [], _, _ => rfl
  | (a, b) :: l, n, h => by
    have q : (n == a) = false := by simpa using fun e : n = a => h (by simp [e])
    simp only [List.lookup, q]
    exact lookup_none fun z => h (by simp [z])
theorem lookup_append : ∀ {l r : List (Str × Value)} {n : Str}, (l ++ r).lookup n = (l.lookup n).or (r.lookup n)
  | [], _, _ => by simp
  | (a, b) :: l, r, n => by
    show List.lookup n ((a, b) :: (l ++ r)) = _
    cases q : (n == a) with
    | true => simp [List.lookup, q]
    | false => simp only [List.lookup, q]; exact lookup_append
theorem lookup_rev {n : Str} : ∀ {l : List (Str × Value)}, (l.map (·.1)).Nodup → l.reverse.lookup n = l.lookup n
  | [], _ => rfl
  | (a, b) :: l, nd => by
    have nd' : a ∉ l.map (·.1) ∧ (l.map (·.1)).Nodup := List.nodup_cons.mp (by simpa using nd)
    rw [List.reverse_cons, lookup_append, lookup_rev nd'.2]
    cases q : (n == a) with
    | true =>
      have e : n = a := by simpa using q
      subst e
      rw [lookup_none nd'.1]
      simp [List.lookup]
    | false => simp [List.lookup, q]
theorem zip_fst : ∀ {ns : List Str} {us : List Value}, ns.length = us.length → (ns.zip us).map (·.1) = ns
  | [], [], _ => rfl
  | [], _ :: _, h => by simp at h
  | _ :: _, [], h => by simp at h
  | n :: ns, u :: us, h => by
    show n :: (ns.zip us).map (·.1) = n :: ns
    rw [zip_fst (by simpa using h)]
theorem bind_at {ns : List Str} {us : List Value} {i : Nat} {n : Str} {u : Value} (nd : ns.Nodup) (h1 : ns[i]? = some n) (h2 : us[i]? = some u) (hl : ns.length = us.length) : (ns.zip us).reverse.lookup n = some u := by
  rw [lookup_rev (by rw [zip_fst hl]; exact nd)]
  exact lookup_zip nd h1 h2 hl

theorem made {x : Str} {fs : List Str} {P : Program} {mg mb : Str → Option Value} {R : Result → Shared → Prop} {us : List Value} {vs : List L2.V} (T : Txt P K mg x fs C) (X : K.In s.heap) (hlim : s.heap.NoLimit) (hg : s.heap.Ns mainGlobals mg) (hb : s.heap.Ns builtinsNs mb)
    (mbs : mb "super" = some (.type "super")) (hroom : A.depth + 1 < recursionLimit) (hl : us.length = fs.length) (r : Paired L2.RelV vs us) (hne : fs ≠ []) (hz : fs.length ≤ 100)
    (hq : ∀ h' tk e d, Made s.heap h' e C d fs vs → R (.ok (.ret (.ref e))) { s with heap := h', toks := tk }) : codeAny (model P w) A (.call (.ref C) ⟨us, []⟩) R s := by
  obtain ⟨nm, q, N, bs, bm, sn, sub, ab, col, dd, k0, k1, k2, k3, k5, hC, hbm⟩ := T.cls
  obtain ⟨fI, cda, cc, oc, od, osl, dV, kV, doc, pm, an, ct, msg, kk, p0, p1, p2, p3, p4, p5, ss, ar, sc, pa, iC, tC, hss, ho, hpa, hpn, hbind, ⟨sk, sco, sge, snc, sself, sfs, ssup, scls⟩, hcd, hli, ⟨ccl, cdd, cvs, ccs, file, tf, lcd, hfi, hfe⟩, cl, cld, csl, lcc⟩ := T.fn
  have hcl : clsIn K C = some { name := nm, bases := bs, mro := .ref C :: bm, ns := N, qualname := q, hasDict := true, slotNames := sn, subclasses := sub, abstract := ab, collection := col, hasDel := false } := by unfold clsIn; rw [hC] <;> rfl
  have husz : us.length ≤ sizeLine := by rw [hl, sizeLine_eq]; omega
  obtain ⟨hp, g, dr, tk, os⟩ := s
  have k : ∀ b o, hp.get? b = some o → ((hp.push (kdv_tup us)).push (excO C hp.objs.size)).get? b = some o := fun b o e => Heap.get?_push_of_some _ (Heap.get?_push_of_some _ e)
  have hget : ((hp.push (kdv_tup us)).push (excO C hp.objs.size)).get? (hp.objs.size + 1) = some (excO C hp.objs.size) := by heap_get
  have hnx : ∀ b, hp.objs.size ≤ b → K.lookup b = none := fun b hb => by
    cases e : K.lookup b with
    | none => rfl
    | some o => exact absurd (Nat.lt_of_lt_of_le (Heap.lt_size (X _ _ e)) hb) (Nat.lt_irrefl _)
  refine call_own F.excBase_ValueError (fun Y => refsVE_contains Y bm hbm) (X _ _ hC) (looks_findIn X iC) (fun self => bind_fn X self tC) husz ?_
  -- into __init__
  obtain ⟨e, he⟩ : ∃ e, e = hp.objs.size + 1 := ⟨_, rfl⟩
  rw [← he] at hget ⊢
  obtain ⟨hA, hAe⟩ : ∃ hA, hA = (hp.push (kdv_tup us)).push (excO C hp.objs.size) := ⟨_, rfl⟩
  rw [← hAe] at hget ⊢
  have k : ∀ b o, hp.get? b = some o → hA.get? b = some o := by rw [hAe]; exact k
  have XA : K.In hA := fun a o z => k a o (X a o z)
  have eb : hp.objs.size ≤ e := by rw [he]; exact Nat.le_succ _
  have hsz : hA.objs.size = hp.objs.size + 2 := by rw [hAe, Heap.size_push, Heap.size_push]
  have ulen : (Value.ref e :: us).length = fs.length + 1 := by simp [hl]
  have nlen : (("self" : Str) :: fs).length = (Value.ref e :: us).length := by simp [hl]
  refine ks_codeAny_call_defAt (body := Xc.sup msg kk p0 p1 p2 p3 p4 p5 :: ss) (binds := (("self" : Str) :: fs).zip (Value.ref e :: us)) ?_ (XA _ _ ho) rfl (hlim.keeps k) (codeRec_of XA hcd) rfl (BindsTo.of_eq (hbind _ ulen)) snc ?_ (fun h0 hns0 k0 => ?_) sco sge sk
  · show A.depth + 1 < recursionLimit
    exact hroom
  · intro y hy
    have z : y.1 ∈ ("self" : Str) :: fs := by
      have z2 : y.1 ∈ ((("self" : Str) :: fs).zip (Value.ref e :: us)).map (·.1) := List.mem_map_of_mem hy
      rw [zip_fst nlen] at z2
      exact z2
    rcases List.mem_cons.mp z with z | z
    · rw [z]; exact sself
    · exact (sfs _ z).1
  obtain ⟨env, henv⟩ : ∃ env, env = callEnv (ksFn "__init__" (x ++ ".__init__") ar (Xc.sup msg kk p0 p1 p2 p3 p4 p5 :: ss) sc dV kV doc pm an (.ref cda) ct cc) hA.objs.size fI := ⟨_, rfl⟩
  rw [← henv]
  have eks : env.kindOf "super" = some .globalImplicit := by rw [henv]; exact ssup
  have ekc : env.kindOf "__class__" = some .free := by rw [henv]; exact scls
  have eself : env.kindOf "self" = some .local := by rw [henv]; exact sself
  have ekf : ∀ f ∈ fs, env.kindOf f = some .local := fun f hf => by rw [henv]; exact (sfs f hf).1
  have esk : env.scope.kind = .function := by rw [henv]; exact sk
  have eloc : env.locals = hA.objs.size := by rw [henv]; rfl
  have efu : env.func = some fI := by rw [henv]; rfl
  have eco : env.code = .ref cda := by rw [henv]; rfl
  have egl : env.globals = mainGlobals := by rw [henv]; rfl
  have ebn : env.builtins = builtinsNs := by rw [henv]; rfl
  have ecl : env.cells.lookup ("__class__" : Str) = some cc := by rw [henv]; rfl
  have X0 : K.In h0 := fun a o z => k0 a o (XA a o z)
  have kk0 : ∀ b o, hp.get? b = some o → h0.get? b = some o := fun b o z => k0 b o (k b o z)
  have he0 := k0 _ _ hget
  obtain ⟨m, hm⟩ : ∃ m : Str → Option Value, m = fun y => ((("self" : Str) :: fs).zip (Value.ref e :: us)).reverse.lookup y := ⟨_, rfl⟩
  have hns0 : h0.Ns env.locals m := by rw [hm, eloc]; exact hns0
  have mself : m "self" = some (.ref e) := by
    rw [hm]
    exact bind_at (i := 0) T.nd rfl rfl nlen
  have mfs : fs.map m = us.map some := by
    refine List.ext_getElem? fun i => ?_
    rw [List.getElem?_map, List.getElem?_map]
    cases h1 : fs[i]? with
    | none =>
      have z : us[i]? = none := List.getElem?_eq_none_iff.mpr (by have := List.getElem?_eq_none_iff.mp h1; omega)
      rw [z]
      rfl
    | some f =>
      have hi := (List.getElem?_eq_some_iff.mp h1).1
      have z : us[i]? = some us[i] := List.getElem?_eq_getElem (by omega)
      rw [z]
      show some (m f) = some (some us[i])
      rw [hm]
      exact congrArg some (bind_at (i := i + 1) T.nd (by simpa using h1) (by simpa using z) nlen)
  refine ks_wpAt_execs_cons (ks_wpAt_Expr_any ?_ (by rw [henv]; show interactive _ = false; simp [interactive, callEnv, newEnv, sk]) rfl)
  have hev : eval (.Call (.Attribute (.Call (.Name "super" p0) [] [] p1) "__init__" p2) [.Constant (.str msg) kk p3] [] p4) env = (do
      let ov ← attributeBase (.Call (.Name "super" p0) [] [] p1) "__init__" env (eval (.Call (.Name "super" p0) [] [] p1) env)
      standAt p2.atName
      let (f, first) ← holding [ov] (getMethod ov "__init__" (L2.plainOf (.Call (.Name "super" p0) [] [] p1) env))
      callWith p4 f first (backTo p4 (starEach [.Constant (.str msg) kk p3] env)) []) := by
    show (do
      let ov ← attributeBase (.Call (.Name "super" p0) [] [] p1) "__init__" env (eval (.Call (.Name "super" p0) [] [] p1) env)
      standAt p2.atName
      methodCall (.Call (.Name "super" p0) [] [] p1) "__init__" p2 p4 env ov 1 (backTo p4 (starEach [.Constant (.str msg) kk p3] env)) (backToKw p4 (keywordEach [] env))) = _
    refine congrArg _ (funext fun ov => ?_)
    refine congrArg _ (funext fun _ => ?_)
    exact L2.mcall_line rfl hli
  refine ks_wpAt_MethodCall ?_ hev
  refine ks_wpAt_super_base eks ekc (by decide) efu (X0 _ _ ho) rfl hpa eco (X0 _ _ lcd) rfl hfi hfe T.file ?_
  refine ks_loadName_global esk eks (loadGlobal_builtin (by rw [egl]; exact hg.keeps kk0) T.sup (by rw [ebn]; exact hb.keeps kk0) mbs ⟨rfl, ?_⟩)
  refine wpAny_loadName_free esk ekc ecl ⟨_, X0 _ _ lcc, rfl⟩ ?_
  rw [hpn]
  refine wpAny_loadName_local esk eself hns0 mself ?_
  have oC := X0 _ _ hC
  refine ks_wpAny_isType_cls oC rfl ⟨rfl, ?_⟩
  refine ks_wpAny_call_super oC rfl he0 rfl (fun c z => by cases z) (looks_mroIn X0 T.self) (fun h1 eso k1 => ?_)
  have X1 : K.In h1 := fun a o z => k1 a o (X0 a o z)
  have he1 := k1 _ _ he0
  have I1 : InstAt h1 e (excO C hp.objs.size) C none := ⟨he1, rfl, rfl, trivial⟩
  have hf : alongIn K "__init__" ((Value.ref C :: bm).dropWhile (· != .ref C) |>.drop 1) = some (some (.builtin "ValueError.__init__")) := by
    have z := T.up
    unfold ks_superIn at z
    rw [hcl] at z
    exact z
  have neC : e ≠ C := fun z => by
    have y := hnx e eb
    rw [z, hC] at y
    cases y
  refine kxs_getMethod kxs_ValueError eso (looks_opaque X1 T.opq) ((looks_clsIn X1 hcl).andThen .now) rfl X1 hf (I1.type.andThen (looks_subIn X1 T.veC)) neC (by decide) ?_
  obtain ⟨u, hu⟩ : ∃ u, u = h1.objs.size := ⟨_, rfl⟩
  have k2 : ∀ b o, h1.get? b = some o → (h1.push (kxs_mw "ValueError.__init__" e)).get? b = some o := fun b o z => Heap.get?_push_of_some _ z
  have hgu : (h1.push (kxs_mw "ValueError.__init__" e)).get? u = some (kxs_mw "ValueError.__init__" e) := by rw [hu]; exact Heap.get?_push_at rfl rfl
  show wpAny _ _ (callWith p4 (.ref h1.objs.size) [] _ []) _ _ _
  rw [← hu]
  obtain ⟨h2, hh2⟩ : ∃ h2, h2 = h1.push (kxs_mw "ValueError.__init__" e) := ⟨_, rfl⟩
  rw [← hh2] at hgu k2 ⊢
  refine kxs_callWith (i := "ValueError.__init__") (x := e) rfl (evalArgs_plain ?_)
  refine spliced_more (e := .Constant (.str msg) kk p3) (rest := []) ?_
  refine Calls.Constant_str (spliced_none ⟨hgu, ?_⟩)
  have k02 : ∀ b o, h0.get? b = some o → h2.get? b = some o := fun b o z => k2 b o (k1 b o z)
  have kp2 : ∀ b o, hp.get? b = some o → h2.get? b = some o := fun b o z => k02 b o (kk0 b o z)
  refine call_wrap (kp2 _ _ (X _ _ hC)) (k2 _ _ he1) hgu (by show 1 ≤ sizeLine; rw [sizeLine_eq]; omega) fun h3 t1 k3 he3 => ?_
  refine wpAt_of_wpAny ?_
  -- the stores
  have ne3 : ∀ {b : Addr} {o : Obj}, hp.get? b = some o → b ≠ e := fun {b o} z => Nat.ne_of_lt (Nat.lt_of_lt_of_le (Heap.lt_size z) eb)
  have kp3 : ∀ b o, hp.get? b = some o → h3.get? b = some o := fun b o z => k3 b o (ne3 z) (kp2 b o z)
  have X3 : K.In h3 := fun a o z => kp3 a o (X a o z)
  have neL : env.locals ≠ e := by
    rw [eloc, hsz, he]
    exact Nat.ne_of_gt (Nat.lt_succ_self _)
  have hns3 : h3.Ns env.locals m := by
    obtain ⟨o, es, ep, hoL, hr⟩ := hns0
    exact ⟨o, es, ep, k3 _ _ neL (k02 _ _ hoL), hr⟩
  match fs, us, vs, hss, hne, mfs, r, hl, hz, sfs, ekf, T, hq with
  | [], _, _, _, hne, _, _, _, _, _, _, _, _ => exact absurd rfl hne
  | f :: fs', [], _, _, _, _, _, hl, _, _, _, _, _ => cases hl
  | f :: fs', u0 :: us', v0 :: vs', .cons _ q1 q2 q3 q4 hss', _, mfs, .cons rv rvs, hl, hz, sfs, ekf, T, hq =>
  have hmu : m f = some u0 := by simpa using congrArg List.head? mfs
  have hmr : fs'.map m = us'.map some := by simpa using congrArg List.tail mfs
  refine wpAny_execs_cons (plainObj_wpAny_Assign_Attribute ?_)
  refine ldm hns3 hmu (ldm hns3 mself ?_ esk eself (by decide)) esk (ekf f List.mem_cons_self) (sfs f List.mem_cons_self).2
  refine set_plain X3 (ox := excO C t1) (od := none) ⟨he3, rfl, rfl, trivial⟩ T.sa ?_
  refine exc_osa X3 he3 hcl (show refsVE (.ref C :: bm) = true from hbm) rfl (T.noF f List.mem_cons_self) fun h4 tk4 dx k4 dn dne hx4 hn4 => ?_
  have d3 : ∀ {b : Addr} {o : Obj}, h3.get? b = some o → b ≠ dx := fun {b o} z => Nat.ne_of_lt (Nat.lt_of_lt_of_le (Heap.lt_size z) dn)
  have kp4 : ∀ b o, hp.get? b = some o → h4.get? b = some o := fun b o z => k4 b o (ne3 z) (kp3 b o z)
  have hdL : dx ≠ env.locals := by
    obtain ⟨o, es, ep, hoL, hr⟩ := hns3
    exact Ne.symm (d3 hoL)
  have hbig : hp.objs.size ≤ dx := by
    refine Nat.le_of_not_lt fun z => ?_
    have z2 : hA.objs.size < h3.objs.size := by
      obtain ⟨o, es, ep, hoL, hr⟩ := hns3
      rw [← eloc]
      exact Heap.lt_size hoL
    have dn' : h3.objs.size ≤ dx := dn
    rw [hsz] at z2
    clear hbind hq dn
    omega
  refine more (nmC := nm) (qC := q) (N := N) (bs := bs) (bm := bm) (t1 := t1) (x := e) (dx := dx) hcl hbm T.sa esk eself mself _ fs' us' _ [f] _ [(f, v0)] vs' hss' (fun a o z => kp4 a o (X a o z)) (fun y hy => ⟨T.noF y (List.mem_cons_of_mem _ hy), ekf y (List.mem_cons_of_mem _ hy), (sfs y (List.mem_cons_of_mem _ hy)).2⟩) hmr rvs ?_ hdL (hnx _ hbig) hx4 hn4 dne ?_ ?_ (L2.relO_put (fs := []) (mA := fun _ => none) rv fun _ => True.intro) ?_
  · obtain ⟨o, es, ep, hoL, hr⟩ := hns3
    exact ⟨o, es, ep, k4 _ _ neL hoL, hr⟩
  · intro y hy
    by_cases z : y = f
    · rw [z]; exact List.mem_singleton_self f
    · exact absurd (if_neg z) hy
  · simp only [List.length_cons] at hz ⊢
    simp only [List.length_nil]
    omega
  · intro h5 tk5 mA k5 hn5 rel
    have kk5 : ∀ b o, hp.get? b = some o → h5.get? b = some o := fun b o z => k5 b o (Nat.ne_of_lt (Nat.lt_of_lt_of_le (Heap.lt_size z) hbig)) (kp4 b o z)
    refine ⟨rfl, hq h5 tk5 e dx ⟨kk5, eb, ⟨_, _, k5 _ _ (Ne.symm dne) hx4, rfl, rfl, rfl, rfl⟩, hbig, dne, mA, hn5, fun y => ?_⟩⟩
    have z := rel y
    simpa using z
end
end Xc

set_option Elab.async false
set_option linter.all false
set_option maxRecDepth 100000
set_option maxHeartbeats 4000000
namespace Uv
open PySem PySem.Spec L2
open PyProof.Rows hiding St

/-! ### an exception of such a class made and raised -/
/-- C(e, ..): its fields by name, the last first -/
def tMkX (C : Addr) (fs : List Str) (ta : TA) : L2.St → Hp → XK → Prop := fun σ H Q => ta σ H fun vs H1 => vs.length = fs.length ∧ ∀ d, H1 d = none → Q (.ref C) (some d) (upd H1 d (.xd (fs.zip vs).reverse))
section
variable {X : Cx} {C : Addr} {x : Str} {fs : List Str}
theorem pmk_x {e : Expr} {es : List Expr} {ta : TA} {p pos : Pos} {k : Nat} (T : Xc.Txt X.prog X.K X.mg x fs C) (hr : Room k X.A) (hne : fs ≠ []) (hz : fs.length ≤ 100) (ha : PA X (e :: es) ta) (hg : Gl X x := by rfl) (hdb : (x == ("__debug__" : Str)) = false := by decide)
    (he : starEach (e :: es) X.env = (false, eval e X.env) :: starEach es X.env := by rfl) (hpl : (backTo pos (starEach es X.env)).any (·.1) = false := by rfl) : PMk X (.Call (.Name x p) (e :: es) [] pos) (tMkX C fs ta) := by
  intro pins s σ H Q I h
  refine wpAny_Call_Name_kw (ld_glob I hg T.gC ?_ hdb)
  refine PySem.W.callWith_K (h₀ := X.base) I.ok.mod.kin T.kC (thn (ha.run pos pins s σ H _ I h) fun us s1 hh => ?_) he hpl
  obtain ⟨vs, H1, I1, r1, hl, q1⟩ := hh
  refine ⟨I1.kIn, ?_⟩
  show wpAny _ _ (call (.ref C) us) _ _ _
  obtain ⟨mb, b1, b2⟩ := I1.mod.blt
  have hlim := I1.nolimit
  have hg' := I1.mod.glob.keeps I1.bk
  have hb' := b1.keeps I1.bk
  obtain ⟨hp, g, dr, tk, os⟩ := s1
  refine wpAny_call (Xc.made T I1.kIn hlim hg' hb' ((b2 "super" (by decide)).trans (by decide +kernel)) (by have := hr.dp; omega) (by rw [← hl]; exact (Paired.length r1).symm) r1 hne hz fun h' tk' e d M => ?_)
  show MkP X pins σ Q (.ref e) ⟨h', g, dr, tk', os⟩
  obtain ⟨oe, fv, hoe, hc, hd, hdat, h1⟩ := M.obj
  obtain ⟨mA, hns, rel⟩ := M.ns
  obtain ⟨G', g1, g2⟩ := restrict h' fun b => decide (b ≠ e)
  have gk : ∀ b, b ≠ e → G'.get? b = h'.get? b := fun b hb => g1 b (decide_eq_true hb)
  have ge : G'.get? e = none := g2 e (by simp)
  have old : ∀ b o, hp.get? b = some o → G'.get? b = some o := fun b o q => (gk b (Nat.ne_of_lt (Nat.lt_of_lt_of_le (Heap.lt_size q) M.new))).trans (M.keep b o q)
  have ob : ObjOk X.prog X.w (upd H1 d (.xd (fs.zip vs).reverse)) G' d (.xd (fs.zip vs).reverse) := ⟨mA, hns.at (fun o q => (gk d M.dne).trans q), rel⟩
  have J : Inv X pins σ (upd H1 d (.xd (fs.zip vs).reverse)) ⟨G', g, dr, tk', os⟩ := I1.laid (t' := tk') old M.dbig ob
  refine ⟨e, oe, fv, ⟨G', g, dr, tk', os⟩, _, .ref C, some d, rfl, J, fun b o q => ?_, ge, hoe, ⟨hc, hd⟩, hdat, h1, ?_, rfl, I1.bare, raises_own T.exC T.tyC, q1 d (I1.hok.fresh M.dbig)⟩
  · by_cases hb : b = e
    · have q' : G'.get? b = some o := q
      rw [hb, ge] at q'; cases q'
    · exact (gk b hb).symm.trans q
  · rw [upd_ne (Ne.symm M.dne)]
    exact I1.hok.fresh M.new
/-- raise C(e, ..) -/
def tRaiseX (C : Addr) (fs : List Str) (W : WX) (ta : TA) : TS := fun _ σ H => tMkX C fs ta σ H fun cls d H' => W cls d σ H'
theorem ps_raiseX {e : Expr} {es : List Expr} {ta : TA} {W : WX} {p pos pos2 : Pos} {k : Nat} (hc : X.calm = true) (T : Xc.Txt X.prog X.K X.mg x fs C) (hr : Room k X.A) (tk : Takes X W) (hne : fs ≠ []) (hz : fs.length ≤ 100) (ha : PA X (e :: es) ta) (hg : Gl X x := by rfl) (hdb : (x == ("__debug__" : Str)) = false := by decide)
    (he : starEach (e :: es) X.env = (false, eval e X.env) :: starEach es X.env := by rfl) (hpl : (backTo pos (starEach es X.env)).any (·.1) = false := by rfl) :
    PS X (.Raise (some (.Call (.Name x p) (e :: es) [] pos)) none pos2) (tRaiseX C fs W ta) := ps_raise hc tk (pmk_x T hr hne hz ha hg hdb he hpl)
end

/-! ### isinstance(e, c), e the exception that a suite holds -/
end Uv
namespace Xc
open PySem PySem.Spec PySem.Calls PySem.W PyProof.Rows
section
variable {prog : Program} {w : World} {A : Around} {E : Value → Shared → Prop} {s : Shared} {K : Frag} {x D : Addr} {ox : Obj} {od : Option Obj}
theorem find_cls {C : Addr} {name : Str} {a g : Value} (hc : (clsIn K C).isSome = true) (ha : findIn K (.ref C) name = some (some a)) (hg : specialIn K a "__get__" = some (some g)) (ht : takesIn K a = some true) : findObj K C od name = some (.bind g a) := by
  obtain ⟨cd, hc⟩ := Option.isSome_iff_exists.mp hc
  unfold findObj
  rw [hc, Option.bind_some, ha, Option.bind_some]
  simp [hg, ht]
/-- e.__class__ -/
theorem get_cls {Q : Option Value → Shared → Prop} (hga : findIn K (.ref D) "__getattribute__" = some (some (.builtin "BaseException.__getattribute__"))) (hgt : findIn K (.ref D) "__getattr__" = some none) (hsub : subIn K (.ref D) (.type "BaseException") = some true)
    (hdct : hasDictIn K D = true) (ha : findIn K (.ref D) "__class__" = some (some (.builtin "object.__class__"))) (hn : specialIn K (.builtin "object.__class__") "__get__" = some (some (.builtin "getset_descriptor.__get__"))) (htk : takesIn K (.builtin "object.__class__") = some true)
    (hm : mroIn K D (.type "object") = some true) (X : K.In s.heap) (I : InstAt s.heap x ox D od) (h : Q (some (.ref D)) { s with toks := s.toks + 1 }) : wpAny (model prog w) A (getAttr? (.ref x) "__class__") Q E s := by
  have hf : findObj K D od "__class__" = some (.bind (.builtin "getset_descriptor.__get__") (.builtin "object.__class__")) := find_cls (by obtain ⟨cd, hc, _⟩ := any_some hdct; rw [hc]; rfl) ha hn htk
  obtain ⟨hp, g, d, t, os⟩ := s
  have l0 := I.type (M := model prog w)
  have l1 := looks_findIn (M := model prog w) X hga
  have l2 := looks_findIn (M := model prog w) X hgt
  have l3 := looks_find (M := model prog w) X I hf
  have sub : Looks (model prog w) hp (isInstance (.ref x) (.type "BaseException")) true := l0.andThen (looks_subIn X hsub)
  have x0 : (false && onTheHeap (Value.builtin "BaseException.__getattribute__")) = false := rfl
  have x2 : (Value.builtin "BaseException.__getattribute__" == Value.builtin "object.__getattribute__") = false := by decide +kernel
  have x1 : (onTheHeap (Value.ref D) && Value.builtin "BaseException.__getattribute__" == Value.builtin "object.__getattribute__") = false := by rw [x2]; rfl
  unfold getAttr? getAttrBy? getAttrBy
  refine wpAny_bind (wpAny_mkText (wpAny_bind (wpAny_attempt (wpAny_holding (wpAny_bind (l0.at (wpAny_bind (l1.at ?_))))))))
  show wpAny _ _ (if (onTheHeap (Value.ref D) && Value.builtin "BaseException.__getattribute__" == Value.builtin "object.__getattribute__") = true then _ else _) _ _ _
  rw [x1, if_neg Bool.false_ne_true]
  unfold getAttrByItsOwn hookBefore
  refine wpAny_bind ?_
  rw [if_pos (show onTheHeap (Value.ref D) = true from rfl)]
  refine l2.at ?_
  refine wpAny_bind (wpAny_attempt (wpAny_holding ?_))
  unfold callGetattribute
  rw [x0, if_neg Bool.false_ne_true]
  unfold boundAndCalled
  rw [PySem.F.excAttr_ValueError.ga.bind (.ref x)]
  refine wpAny_bind (wpAny_pure ?_)
  show wpAny _ _ (call (.builtin "BaseException.__getattribute__") [.ref x, .str "__class__" t]) _ _ _
  refine wpAny_call (codeAny_call_builtin PySem.F.excAttr_ValueError.ga.plain PySem.F.entry_bexc_ga ?_)
  refine @check_slot (model prog w) _ _ ⟨hp, g, d, t + 1, os⟩ "BaseException.__getattribute__" "BaseException" "__getattribute__" (.ref x) [.str "__class__" t] [] _ (by decide +kernel) (by decide +kernel) sub (PySem.F.args_bexc_ga (.ref x) (.str "__class__" t)) ?_
  unfold Builtin.«object.__getattribute__»
  refine wpAny_bind (wpAny_of_eq (a := ((Value.ref x : Value), [Value.str "__class__" t])) (by first | rfl | (simp only [slotArgs]; rfl)) ?_)
  refine wpAny_bind (wpAny_pure (wpAny_bind (l0.at (wpAny_bind (l3.at ?_)))))
  show wpAny _ _ (holding [Value.builtin "object.__class__"] (call (.builtin "getset_descriptor.__get__") [.builtin "object.__class__", .ref x, .ref D]) >>= ret) _ _ _
  refine wpAny_bind (wpAny_holding (wpAny_call (class_get (s := ⟨hp, g, d, t + 1, os⟩) (ox := ox) (od := od) X I hm ?_)))
  refine wpAny_pure ?_
  show wpAny _ _ (handedOut (.ref D)) _ _ _
  rw [handedOut_of (v := .ref D) rfl]
  first
    | exact wpAny_pure (wpAny_pure h)
    | exact wpAny_pure h
    | exact wpAny_pure (wpAny_bind (wpAny_pure (wpAny_pure h)))
theorem kitx (hga : findIn K (.ref D) "__getattribute__" = some (some (.builtin "BaseException.__getattribute__"))) (hgt : findIn K (.ref D) "__getattr__" = some none) (hsub : subIn K (.ref D) (.type "BaseException") = some true) (hdct : hasDictIn K D = true)
    (ha : findIn K (.ref D) "__class__" = some (some (.builtin "object.__class__"))) (hn : specialIn K (.builtin "object.__class__") "__get__" = some (some (.builtin "getset_descriptor.__get__"))) (htk : takesIn K (.builtin "object.__class__") = some true) (hm : mroIn K D (.type "object") = some true) :
    KitX K (.ref x) (.ref D) (fun h => InstAt h x ox D od) where
  ty := fun _ _ _ I => I.type
  it := fun _ _ X _ => by
    obtain ⟨cdD, hcD, _⟩ := any_some hdct
    unfold clsIn at hcD
    split at hcD
    · rename_i c' d' cd' sl' ho
      intro A' Q' E' s' k q
      unfold isType loadHead
      exact wpAny_bind (wpAny_loadPart (k _ _ (X _ _ ho)) (wpAny_pure q))
    · cases hcD
  ne := fun h tp dd its n sl X htp => by
    obtain ⟨cdD, hcD, _⟩ := any_some hdct
    refine Bool.eq_false_iff.mpr fun q => ?_
    have e : D = tp := Value.ref.inj (beq_iff_eq.mp q)
    subst e
    unfold clsIn at hcD
    split at hcD
    · rename_i c' d' cd' sl' ho
      have z := (X _ _ ho).symm.trans htp
      cases z
    · cases hcD
  ca := fun X I k => get_cls hga hgt hsub hdct ha hn htk hm X I k
end
end Xc
namespace Uv
open PySem PySem.Spec L2
open PyProof.Rows hiding St
/-- isinstance(e, c) and isinstance(e, (c, ..)), e held at a of the class D with its dict at d -/
def rIsX (K : PySem.W.Frag) (a : Addr) (cls : Value) (d : Option Addr) : List V → Hp → VK → Prop := fun xs H Q => ∃ (D dd : Addr) (fs : List (Str × V)), cls = .ref D ∧ d = some dd ∧ H dd = some (.xd fs) ∧ ExcC K D ∧
  ((∃ (c : V) (cv : Value) (b : Bool), xs = [.ref a, c] ∧ ClsV c cv ∧ PySem.W.kitOne K (.ref D) cv = some b ∧ Q (.bl b) H) ∨
    ∃ (tp : Addr) (cs : List V) (us : List Value) (b : Bool), xs = [.ref a, .ref tp] ∧ H tp = some (.tup cs) ∧ Paired ClsV cs us ∧ PySem.W.kitAny K (.ref D) us = some b ∧ Q (.bl b) H)
theorem call_isX {X : Cx} {a : Addr} {oe : Obj} {cls : Value} {d : Option Addr} {pn : List (Addr × Obj)} (hz : Zc cls d oe) (hf : ∃ vs, oe.data = .fields vs) : CallR (X.suite a ((a, oe) :: pn)) (.builtin "isinstance") (rIsX X.K a cls d) := by
  intro pins s σ H xs us Q I r h
  obtain ⟨D, dd, fs, rfl, rfl, hdd, C, h⟩ := h
  obtain ⟨hget, _⟩ := I.pin (a, oe) (List.mem_append.mpr (.inl List.mem_cons_self))
  obtain ⟨vs, hv⟩ := hf
  obtain ⟨mA, hns, _⟩ := (show ObjOk X.prog X.w H s.heap dd (.xd fs) from I.hok dd _ hdd)
  obtain ⟨od, es, ep, hod, _⟩ := hns
  have J : PySem.W.InstAt s.heap a oe D (some od) := by
    obtain ⟨oc, odd, oda, osl⟩ := oe
    obtain ⟨h1, h2⟩ := hz
    dsimp only at h1 h2 hv
    subst h1 h2 hv
    exact ⟨hget, rfl, rfl, hod⟩
  have KX := Xc.kitx (x := a) (ox := oe) (od := some od) C.hg C.hk C.hs C.hd C.ha C.hn C.ht C.hm
  rcases h with ⟨c, cv, b, rfl, hc, e, q⟩ | ⟨tp, cs, ws, b, rfl, hT, hc, e, q⟩
  · obtain ⟨u1, u2, rfl, r1, r2⟩ := vals2 r
    cases (show u1 = Value.ref a from r1)
    have ec := hc.eq r2
    subst ec
    exact PySem.W.kia_one KX I.kIn J e (fun z => nomatch z) fun tk => ⟨.bl b, H, I.kept (t' := tk) fun _ _ z => z, rfl, q⟩
  · obtain ⟨u1, u2, rfl, r1, r2⟩ := vals2 r
    cases (show u1 = Value.ref a from r1)
    cases (show u2 = Value.ref tp from r2)
    obtain ⟨_, its, rv, o, h1, h2, n, h3⟩ := (show ObjOk X.prog X.w H s.heap tp (.tup cs) from I.hok tp _ hT)
    have e3 := ClsV.all hc rv
    subst e3
    obtain ⟨oc, odd, dt, sl⟩ := o
    simp only at h2 h3
    subst h2 h3
    exact PySem.W.kia_tup KX I.kIn J h1 e (fun z => nomatch z) fun tk => ⟨.bl b, H, I.tok tk, rfl, q⟩
end Uv

set_option Elab.async false
set_option linter.all false
set_option maxRecDepth 100000
set_option maxHeartbeats 4000000
namespace Uv
open PySem PySem.Spec L2
open PyProof.Rows hiding St

/-! ### try: body / except c as n: .. / except c2: .. -/
/-- one clause: its class, the slot of its name (if it has one), its suite -/
structure Cl where
  c : Value
  i : Option Nat
  ts : Addr → Value → Option Addr → TS
def setO (σ : L2.St) (i : Option Nat) (v : Option V) : L2.St := match i with
  | some i => σ.set i v
  | none => σ
def endO (D : Ends) (i : Option Nat) : Ends := match i with
  | some _ => { nx := fun σ' H' => D.nx (setO σ' i none) H', rt := D.rt, bk := fun σ' H' => D.bk (setO σ' i none) H', ct := fun σ' H' => D.ct (setO σ' i none) H' }
  | none => D
/-- what the clauses wish, one after the other -/
def wCl (K : PySem.W.Frag) (Wout : WX) (D : Ends) : List Cl → WX
  | [] => Wout
  | q :: r => fun cls d σ H => ∃ b, PySem.W.exmOne K cls q.c = some b ∧ (b = true → ∀ a, H a = none → q.ts a cls d (endO D q.i) (setO σ q.i (some (.ref a))) H) ∧ (b = false → wCl K Wout D r cls d σ H)
inductive ClOk (X : Cx) : List ExceptHandler → List Cl → Prop
  | nil : ClOk X [] []
  | bare {x : Str} {c : Value} {ts : Addr → Value → Option Addr → TS} {b0 : Stmt} {suite : List Stmt} {np pos' : Pos} {hds : List ExceptHandler} {l : List Cl} (hc : Names X x c)
      (hsu : ∀ (a : Addr) (oe : Obj) (cls : Value) (d : Option Addr) (pn : List (Addr × Obj)), Zc cls d oe → (∃ vs, oe.data = .fields vs) → PSs (X.suite a ((a, oe) :: pn)) (b0 :: suite) (ts a cls d)) (r : ClOk X hds l) :
      ClOk X (.ExceptHandler (some (.Name x np)) none (b0 :: suite) pos' :: hds) (⟨c, none, ts⟩ :: l)
  | named {x n : Str} {i : Nat} {c : Value} {ts : Addr → Value → Option Addr → TS} {b0 : Stmt} {suite : List Stmt} {np pos' : Pos} {hds : List ExceptHandler} {l : List Cl} (hc : Names X x c) (hN : X.N.Nodup) (hi : X.N[i]? = some n) (hln : X.env.kindOf n = some .local)
      (hsu : ∀ (a : Addr) (oe : Obj) (cls : Value) (d : Option Addr) (pn : List (Addr × Obj)), Zc cls d oe → (∃ vs, oe.data = .fields vs) → PSs (X.suite a ((a, oe) :: pn)) (b0 :: suite) (ts a cls d)) (r : ClOk X hds l) :
      ClOk X (.ExceptHandler (some (.Name x np)) (some n) (b0 :: suite) pos' :: hds) (⟨c, some i, ts⟩ :: l)
section
variable {X : Cx} {body : List Stmt} {h0 : ExceptHandler} {hds : List ExceptHandler} {l : List Cl} {pos : Pos} {tb : WX → TS} {Wout : WX}
theorem ps_tryC (tk : Takes X Wout) (hb : ∀ (W : WX) (pn : List (Addr × Obj)) (xe : Value → Shared → Prop), Takes (X.tr pn xe) W → PassesOwn (model X.prog X.w) X.A X.env xe → PSs (X.tr pn xe) body (tb W))
    (hh : ClOk X (h0 :: hds) l) (hs : X.stack = X.env :: X.outer := by rfl) (hf : X.env.frame = some X.env.locals := by rfl) : PS X (.Try body (h0 :: hds) [] [] pos) (fun D σ H => tb (wCl X.K Wout D l) D σ H) := by
  refine ⟨fun pins s σ H D I h => ?_⟩
  have ok := I.ok
  have hfr : X.A.frames = some (X.env :: X.outer) := by rw [ok.frames, hs]
  refine wpAny_Try_except ?_
  refine wpAny_mono ((hb (wCl X.K Wout D l) (X.pn ++ pins) (fun e s₁ => wpAny (model X.prog X.w) X.A (noteFrame e X.env) (fun _ s₂ => wpAny (model X.prog X.w) X.A (setFlight e none) (fun _ s₃ =>
    wpAny (model X.prog X.w) X.A (handleBy e X.env (h0 :: hds)) (SP X pins D) X.xe s₃) X.xe s₂) X.xe s₁) (fun u s' xx => ?_) PassesOwn.looking).run [] s σ H D (I.toTry _) h) (fun f s1 hsp => ?_) (fun e s1 he => he)
  · obtain ⟨a, B, sI, pins', σ', H', cls, d, rfl, J', nb, up, sky, na, os, ag, w⟩ := xx
    have J : Inv X pins σ' H' sI := J'.ofTry ok
    have skyT : Sky B (X.env :: X.outer) a (Zc cls d) X.env.locals s'.heap := by rw [← hs]; exact sky
    show wpAny (model X.prog X.w) X.A (noteFrame (.ref a) X.env) _ _ _
    refine Sky.land Zc.steady hfr hf skyT fun h3 fl3 up3 => ?_
    have J3 : Inv X pins σ' H' { s' with heap := h3 } := J.landed nb fl3.1 (up.trans up3) os ag
    obtain ⟨oe3, vs3, he3, hz3, hd3⟩ := fl3.there
    have offFr : ∀ {h : Heap} {o : Obj} {vs : Array Value}, h.FunFrames B (X.env :: X.outer) → h.get? a = some o → o.data = .fields vs → a ∉ frs (X.env :: X.outer) := fun {h o vs} ff e dd hm => by
      obtain ⟨_, o', e', hnf⟩ := ff.mem hm
      rw [e] at e'; cases e'
      exact hnf _ dd
    have nfr := offFr fl3.2.2.1 he3 hd3
    have nL : a ≠ X.env.locals := fun z => nfr (List.mem_filterMap.mpr ⟨X.env, List.mem_cons_self, by rw [hf, z]⟩)
    have nF : a ∉ X.fs := fun hm => by
      obtain ⟨e, he, q⟩ := List.mem_filterMap.mp hm
      exact nfr (List.mem_filterMap.mpr ⟨e, List.mem_cons_of_mem _ he, q⟩)
    have S3 := J3.suite he3 hd3 na nL nF
    have LT : PySem.W.Looks (model X.prog X.w) h3 (typeOf (.ref a)) cls := fun A Q E s k q => wpAny_typeOf_ref (k _ _ he3) (by rw [hz3.1]; exact q)
    -- the class of a clause is looked up
    have look : ∀ {x : Str} {c : Value} {np : Pos}, Names X x c → ∀ {Q : Value → Shared → Prop} {E : Value → Shared → Prop}, Q c { s' with heap := h3 } → wpAny (model X.prog X.w) (X.A.mark (some (.ref a))) (eval (.Name x np) X.env) Q E { s' with heap := h3 } := fun {x c np} hc {Q E} q => by
      obtain ⟨hg, hdbg, hm | ⟨hm, hv, hnn⟩⟩ := hc
      · exact ld_glob (X := X.suite a ((a, oe3) :: (X.pn ++ pins))) S3 hg hm q hdbg
      · exact ld_blt (X := X.suite a ((a, oe3) :: (X.pn ++ pins))) S3 hg hm hv q hnn hdbg
    have go : ∀ {hds' : List ExceptHandler} {l' : List Cl}, ClOk X hds' l' → wCl X.K Wout D l' cls d σ' H' → wpAny (model X.prog X.w) X.A (handleBy (.ref a) X.env hds') (SP X pins D) X.xe { s' with heap := h3 } := by
      intro hds' l' hk
      induction hk with
      | nil =>
        intro w
        refine wpAny_handleBy_nil ?_
        obtain ⟨k1, k2, k3, oe, vs, T, oT, ts', he, hz, hd, h1, hr⟩ := id fl3
        unfold PySem.passOn
        refine wpAny_bind (wpAny_field he hd h1 ?_)
        rw [if_neg (show ¬ ((Value.ref T == Value.none) = true) from by simp)]
        have fin : wpAny (model X.prog X.w) X.A (setFlight (.ref a) X.env.frame) (fun _ s4 => wpAny (model X.prog X.w) X.A (throw (.ref a) : Sem Flow) (SP X pins D) X.xe s4) X.xe { s' with heap := h3 } := by
          rw [hf]
          refine HandSPX.setFlight_upZ fl3 fun h4 hh4 up4 => wpAny_throw (tk _ _ ?_)
          exact ⟨a, B, sI, pins, σ', H', cls, d, rfl, J, nb, (up.trans up3).trans up4, .inr (.inr (by rw [hs]; exact hh4)), na, os, ag, w⟩
        first
          | exact wpAny_bind (wpAny_pure (wpAny_bind fin))
          | exact wpAny_bind fin
      | @bare x c ts b0 suite np pos' hds2 l2 hc hsu r ih =>
        intro w
        obtain ⟨b, hb1, hyes, hno⟩ := w
        refine wpAny_handleBy_cons (codeAny_handlers_test ?_) (by intro q; cases q)
        refine look hc ((PySem.W.exm_one (M := model X.prog X.w) (J3.kIn) LT hb1).here ?_)
        cases b with
        | true =>
          refine codeAny_handlers_suite ?_
          refine HandSPX.lands_againZ fl3 fun h4 fl4 up4 => ?_
          have J4 : Inv X pins σ' H' { s' with heap := h4 } := J.landed nb fl4.1 ((up.trans up3).trans up4) os ag
          obtain ⟨oe4, vs4, he4, hz4, hd4⟩ := fl4.there
          refine wpAny_mono ((hsu a oe4 cls d (X.pn ++ pins) hz4 ⟨_, hd4⟩).run [] _ _ H' _ (J4.suite he4 hd4 na nL nF) (hyes rfl a na)) (fun f s6 hsp => ?_) (fun _ _ z => False.elim z)
          cases f with
          | next => obtain ⟨σ6, H6, S6, q6⟩ := hsp; exact ⟨_, _, S6.unsuite ok, q6⟩
          | brk => obtain ⟨σ6, H6, S6, q6⟩ := hsp; exact ⟨_, _, S6.unsuite ok, q6⟩
          | cont => obtain ⟨σ6, H6, S6, q6⟩ := hsp; exact ⟨_, _, S6.unsuite ok, q6⟩
          | ret u => obtain ⟨v6, σ6, H6, S6, r6, q6⟩ := hsp; exact ⟨_, _, _, S6.unsuite ok, r6, q6⟩
        | false =>
          show wpAny _ X.A (handleBy (.ref a) X.env hds2) _ _ _
          exact ih (hno rfl)
      | @named x n i c ts b0 suite np pos' hds2 l2 hc hN hi hln hsu r ih =>
        intro w
        obtain ⟨b, hb1, hyes, hno⟩ := w
        refine wpAny_handleBy_cons (codeAny_handlers_test ?_) (by intro q; cases q)
        refine look hc ((PySem.W.exm_one (M := model X.prog X.w) (J3.kIn) LT hb1).here ?_)
        cases b with
        | true =>
          refine codeAny_handlers_suite_as ?_
          refine HandSPX.lands_againZ fl3 fun h4 fl4 up4 => ?_
          have J4 : Inv X pins σ' H' { s' with heap := h4 } := J.landed nb fl4.1 ((up.trans up3).trans up4) os ag
          obtain ⟨oe4, vs4, he4, hz4, hd4⟩ := fl4.there
          refine store_ok (X := X.suite a ((a, oe4) :: (X.pn ++ pins))) (v := .ref a) (J4.suite he4 hd4 na nL nF) hN hi (.inl hln) rfl (fun s5 S5 => ?_) (.inr hln)
          refine wpAny_mono ((hsu a oe4 cls d (X.pn ++ pins) hz4 ⟨_, hd4⟩).run [] s5 _ H' _ S5 (hyes rfl a na)) (fun f s6 hsp => ?_) (fun _ _ z => False.elim z)
          have out : ∀ {σ6 : L2.St} {H6 : Hp} {Q : Shared → Prop}, Inv (X.suite a ((a, oe4) :: (X.pn ++ pins))) [] σ6 H6 s6 → (∀ s7, Inv X pins (σ6.set i none) H6 s7 → Q s7) →
              wpAny (model X.prog X.w) X.A (do bindName X.env n .none; unbindBehindTheSuite X.env n pos') (fun _ s7 => Q s7) X.xe s6 := fun {σ6 H6 Q} S6 hq => gone_ok (S6.unsuite ok) hN hi hln hq
          cases f with
          | next => obtain ⟨σ6, H6, S6, q6⟩ := hsp; exact out S6 fun s7 J7 => ⟨_, _, J7, q6⟩
          | brk => obtain ⟨σ6, H6, S6, q6⟩ := hsp; exact out S6 fun s7 J7 => ⟨_, _, J7, q6⟩
          | cont => obtain ⟨σ6, H6, S6, q6⟩ := hsp; exact out S6 fun s7 J7 => ⟨_, _, J7, q6⟩
          | ret u => obtain ⟨v6, σ6, H6, S6, r6, q6⟩ := hsp; exact out S6 fun s7 J7 => ⟨_, _, _, J7, r6, q6⟩
        | false =>
          show wpAny _ X.A (handleBy (.ref a) X.env hds2) _ _ _
          exact ih (hno rfl)
    exact go hh w
  · cases f with
    | next => obtain ⟨σ', H', J', q⟩ := hsp; exact wpAny_execs_nil ⟨σ', H', J'.ofTry ok, q⟩
    | brk => obtain ⟨σ', H', J', q⟩ := hsp; exact ⟨σ', H', J'.ofTry ok, q⟩
    | cont => obtain ⟨σ', H', J', q⟩ := hsp; exact ⟨σ', H', J'.ofTry ok, q⟩
    | ret u => obtain ⟨v, σ', H', J', r, q⟩ := hsp; exact ⟨v, σ', H', J'.ofTry ok, r, q⟩
end
end Uv

set_option Elab.async false
set_option linter.all false
set_option maxRecDepth 100000
set_option maxHeartbeats 4000000
namespace Uv
open PySem PySem.Spec L2
open PyProof.Rows hiding St

/-! ### heaps that grow -/
/-- all that was there stands -/
abbrev Ex := Evl.Ex
theorem exR (H : Hp) : Ex H H := Evl.Ex.refl H
theorem exN {H : Hp} {p : Addr} {o : HO} (h : H p = none) : Ex H (upd H p o) := Evl.Ex.new h
theorem Ex.tr {H H1 H2 : Hp} (a : Ex H H1) (b : Ex H1 H2) : Ex H H2 := Evl.Ex.trans a b
mutual
theorem dp_ex {K : PySem.W.Frag} {H H' : Hp} (e : Ex H H') : ∀ (d : PyData) (v : V), Dp K H v d → Dp K H' v d
  | .none, _, h => by cases h; exact .non
  | .bool b, _, h => by cases h; exact .bl b
  | .int i, _, h => by cases h; exact .int i
  | .str x, _, h => by cases h; exact .str x
  | .list ds, _, h => by
    cases h with
    | lst hs ha => exact .lst (Evl.ex_l e hs) (dpa_ex e ds _ ha)
  | .tuple ds, _, h => by
    cases h with
    | tup hs ha => exact .tup (Evl.ex_t e hs) (dpa_ex e ds _ ha)
  | .dict _, _, h => by cases h
theorem dpa_ex {K : PySem.W.Frag} {H H' : Hp} (e : Ex H H') : ∀ (ds : List PyData) (vs : List V), DpAll K H vs ds → DpAll K H' vs ds
  | [], _, h => by cases h; exact .nil
  | d :: ds, _, h => by
    cases h with
    | cons a b => exact .cons (dp_ex e d _ a) (dpa_ex e ds _ b)
end
theorem Dp.ex {K : PySem.W.Frag} {H H' : Hp} {v : V} {d : PyData} (h : Dp K H v d) (e : Ex H H') : Dp K H' v d := dp_ex e d v h

/-! ### readings, a step each -/
section
variable {σ : L2.St} {H : Hp} {Q : VK} {QB : Bool → Hp → Prop} {QA : List V → Hp → Prop} {D : Ends} {ta tb te : TE} {t u : TT} {s1 s2 : TS} {v x y : V} {i : Nat} {K : PySem.W.Frag}
theorem s_seq (h : s1 { D with nx := s2 D } σ H) : tSeq s1 s2 D σ H := h
theorem s_next (h : D.nx σ H) : tNext D σ H := h
theorem s_brk (h : D.bk σ H) : tBreak D σ H := h
theorem s_cont (h : D.ct σ H) : tCont D σ H := h
theorem s_asg {g : TG} (h : te σ H fun x H1 => g x σ H1 D.nx) : tAsg te g D σ H := h
theorem s_gn {Q : L2.St → Hp → Prop} (h : Q (σ.set i (some v)) H) : gName i v σ H Q := h
theorem s_ret (h : te σ H D.rt) : tRet te D σ H := h
theorem s_drop (h : te σ H fun _ H1 => D.nx σ H1) : tDrop te D σ H := h
theorem s_if (h : t σ H fun b H1 => if b = true then s1 D σ H1 else s2 D σ H1) : tIfS t s1 s2 D σ H := h
theorem s_var (h : σ[i]? = some (some v)) (q : Q v H) : tVar i σ H Q := ⟨v, h, q⟩
theorem s_c (q : Q v H) : tC v σ H Q := q
theorem s_op {r : R2} (h : ta σ H fun x H1 => tb σ H1 fun y H2 => r x y H2 Q) : tOp r ta tb σ H Q := h
theorem s_un {r : V → Hp → VK → Prop} (h : ta σ H fun x H1 => r x H1 Q) : tUn r ta σ H Q := h
theorem s_cb {r : List V → Hp → VK → Prop} {ts : TA} (h : ts σ H fun vs H1 => r vs H1 Q) : tCB r ts σ H Q := h
theorem s_call {sp : Sp} {dvs : List V} {E : L2.St → XK} {ts : TA} (h : ts σ H fun vs H1 => sp (vs ++ dvs) H1 Q (E σ)) : uCall sp dvs E ts σ H Q := h
theorem s_cons {ts : TA} (h : ta σ H fun x H1 => ts σ H1 fun xs H2 => QA (x :: xs) H2) : tCons ta ts σ H QA := h
theorem s_nil (h : QA [] H) : tNil σ H QA := h
theorem s_test (h : te σ H fun x H' => ∃ k, x = .bl k ∧ QB k H') : tTest te σ H QB := h
theorem s_tB (h : te σ H fun x H' => ∃ k, x = .bl k ∧ QB k H') : tB te σ H QB := h
theorem s_not (h : t σ H fun c H1 => QB (!c) H1) : tNot t σ H QB := h
theorem s_and (h : t σ H fun c H1 => if c = true then u σ H1 QB else QB false H1) : tAnd t u σ H QB := h
theorem s_or (h : t σ H fun c H1 => if c = true then QB true H1 else u σ H1 QB) : tOr t u σ H QB := h
theorem s_andV (h : ta σ H fun x H1 => ∃ c, x = .bl c ∧ if c = true then tb σ H1 Q else Q (.bl false) H1) : tAndV ta tb σ H Q := h
theorem s_orV (h : ta σ H fun x H1 => ∃ c, x = .bl c ∧ if c = true then Q (.bl true) H1 else tb σ H1 Q) : tOrV ta tb σ H Q := h
theorem s_notV (h : ta σ H fun x H1 => ∃ c, x = .bl c ∧ Q (.bl (!c)) H1) : tNotV ta σ H Q := h
theorem s_ifE (h : t σ H fun c H1 => if c = true then ta σ H1 Q else tb σ H1 Q) : tIf t ta tb σ H Q := h
theorem s_bl {b : Bool} {P : Bool → Prop} (h : P b) : ∃ c, V.bl b = V.bl c ∧ P c := ⟨b, rfl, h⟩
theorem s_iT {A B : Prop} (h : A) : if true = true then A else B := by rw [if_pos rfl]; exact h
theorem s_iF {A B : Prop} (h : B) : if false = true then A else B := by rw [if_neg Bool.false_ne_true]; exact h
theorem s_ite {c : Prop} [Decidable c] {A B : Prop} (h1 : c → A) (h2 : ¬ c → B) : if decide c = true then A else B := by
  by_cases h : c
  · rw [if_pos (decide_eq_true h)]; exact h1 h
  · rw [if_neg (by simpa using h)]; exact h2 h
theorem s_iteN {c : Prop} [Decidable c] {A B : Prop} (h1 : ¬ c → A) (h2 : c → B) : if (!decide c) = true then A else B := by
  by_cases h : c
  · rw [decide_eq_true h]; exact s_iF (h2 h)
  · rw [decide_eq_false h]; exact s_iT (h1 h)
theorem s_itB {b : Bool} {A B : Prop} (h1 : b = true → A) (h2 : b = false → B) : if b = true then A else B := by
  cases b with
  | true => exact s_iT (h1 rfl)
  | false => exact s_iF (h2 rfl)
/-- a new tuple, a new list; the heap is from then on any that has it -/
theorem s_new {o : HO} {P : Addr → Hp → Prop} (h : ∀ p H', H p = none → Ex H H' → H' p = some o → P p H') : ∀ p, H p = none → P p (upd H p o) := fun p n => h p _ n (exN n) upd_same
theorem s_tup {ts : TA} (h : ts σ H fun xs H1 => xs.length ≤ sizeLine ∧ ∀ p H', H1 p = none → Ex H1 H' → H' p = some (.tup xs) → Q (.ref p) H') (mono : ∀ Q1 Q2 : List V → Hp → Prop, (∀ xs H1, Q1 xs H1 → Q2 xs H1) → ts σ H Q1 → ts σ H Q2) : tTup ts σ H Q :=
  mono _ _ (fun xs H1 z => ⟨z.1, s_new z.2⟩) h
theorem s_tupE {ts : TA} (h : ts σ H fun xs H1 => xs.length ≤ sizeLine ∧ ∀ p, H1 p = none → Q (.ref p) (upd H1 p (.tup xs))) : tTup ts σ H Q := h
theorem s_lstE {ts : TA} (h : ts σ H fun xs H1 => xs.length ≤ sizeLine ∧ ∀ p, H1 p = none → Q (.ref p) (upd H1 p (.lst xs))) : tLst ts σ H Q := h
theorem s_szN {n : Nat} {P : Prop} (hn : n ≤ 1000) (h : P) : n ≤ sizeLine ∧ P := ⟨Nat.le_trans hn (by decide), h⟩
/-! operators -/
theorem s_I0 {g : Int → Int → V} {a b : Int} (h : Q (g a b) H) : rI0 g (.int a) (.int b) H Q := ⟨a, b, rfl, rfl, h⟩
theorem s_I {C : Int → Int → Prop} {g : Int → Int → V} {a b : Int} (c : C a b) (h : Q (g a b) H) : rI C g (.int a) (.int b) H Q := ⟨a, b, rfl, rfl, c, h⟩
theorem s_U {g : Int → V} {a : Int} (h : Q (g a) H) : rU g (.int a) H Q := ⟨a, rfl, h⟩
theorem s_addI {a b : Int} (h : Q (.int (a + b)) H) : uAdd K (.int a) (.int b) H Q := h
theorem s_addS {a b : Str} (c : a.length + b.length ≤ sizeLine) (h : Q (.str (a ++ b)) H) : uAdd K (.str a) (.str b) H Q := ⟨c, h⟩
theorem s_addL {a b : Addr} {xs ys : List V} (ha : H a = some (.lst xs)) (hb : H b = some (.lst ys)) (c : xs.length + ys.length ≤ sizeLine) (h : ∀ p, H p = none → Q (.ref p) (upd H p (.lst (xs ++ ys)))) : uAdd K (.ref a) (.ref b) H Q := .inl ⟨a, b, xs, ys, rfl, rfl, ha, hb, c, h⟩
theorem s_mulI {a b : Int} (c : CMul a b ∨ CMulW a b) (h : Q (.int (a * b)) H) : uMul K (.int a) (.int b) H Q := ⟨c, h⟩
theorem s_mulS {a : Str} {n : Int} (c : MulOk a n) (h : Q (.str (Txt.mul a n)) H) : uMul K (.str a) (.int n) H Q := ⟨c, h⟩
theorem s_divI {a b : Int} (c : b ≠ 0 ∧ b.natAbs.log2 < 9000) (h : Q (.int (a.fdiv b)) H) : uDiv (.int a) (.int b) H Q := ⟨c, h⟩
theorem s_divP {a b : Int} (c : 0 < b) (d : b.natAbs.log2 < 9000) (h : Q (.int (a / b)) H) : uDiv (.int a) (.int b) H Q := ⟨⟨by omega, d⟩, by rw [Int.fdiv_eq_ediv_of_nonneg a (by omega)]; exact h⟩
theorem s_eqI {a b : Int} (h : Q (.bl (decide (a = b))) H) : uEq K (.int a) (.int b) H Q := h
theorem s_eqS {a b : Str} (h : Q (.bl (decide (a = b))) H) : uEq K (.str a) (.str b) H Q := h
theorem s_eqB {a b : Bool} (h : Q (.bl (decide (a = b))) H) : uEq K (.bl a) (.bl b) H Q := h
theorem s_neI {a b : Int} (h : Q (.bl (!decide (a = b))) H) : uNe K (.int a) (.int b) H Q := h
theorem s_neS {a b : Str} (h : Q (.bl (!decide (a = b))) H) : uNe K (.str a) (.str b) H Q := h
theorem s_neB {a b : Bool} (h : Q (.bl (!decide (a = b))) H) : uNe K (.bl a) (.bl b) H Q := h
theorem eq_data {d e : PyData} (hx : Dp K H x d) (hy : Dp K H y e) (sd : SeqAt.shaped d = true) (se : SeqAt.shaped e = true) (h : Q (.bl (PyData.eqv d e)) H) : uEq K x y H Q := by
  have z : rEqD K x y H Q := ⟨d, e, hx, hy, sd, se, h⟩
  cases hx <;> cases hy <;> first | exact z | (simpa [uEq, PyData.eqv, Bool.beq_eq_decide_eq] using h)
theorem ne_data {d e : PyData} (hx : Dp K H x d) (hy : Dp K H y e) (sd : SeqAt.shaped d = true) (se : SeqAt.shaped e = true) (h : Q (.bl (!PyData.eqv d e)) H) : uNe K x y H Q := by
  have z : rNeD K x y H Q := ⟨d, e, hx, hy, sd, se, h⟩
  cases hx <;> cases hy <;> first | exact z | (simpa [uNe, PyData.eqv, Bool.beq_eq_decide_eq] using h)
theorem s_ixT {p : Addr} {xs : List V} {j : Int} (h : SqT K H p xs) (ha : atI xs j = some v) (q : Q v H) : rIx K (.ref p) (.int j) H Q := .inr (.inl ⟨p, xs, j, v, rfl, rfl, h, ha, q⟩)
theorem s_ixL {p : Addr} {xs : List V} {j : Int} (h : SqL K H p xs) (ha : atI xs j = some v) (q : Q v H) : rIx K (.ref p) (.int j) H Q := .inl ⟨p, xs, j, v, rfl, rfl, h, ha, q⟩
theorem s_ixS {z : Str} {j : Int} {c : Nat} (hz : z.length ≤ sizeLine) (ha : atI z.cps.toList j = some c) (q : Q (.str ⟨#[c]⟩) H) : rIx K (.str z) (.int j) H Q := .inr (.inr ⟨z, j, c, rfl, rfl, hz, ha, q⟩)
end

/-! ### built-ins by the kinds of their arguments -/
def uInt : List V → Hp → VK → Prop := fun xs H Q => match xs with
  | [.int i] => Q (.int i) H
  | [.bl b] => Q (.int (if b then 1 else 0)) H
  | [.str a] => ∃ n, PySem.intText? a = some n ∧ a.length ≤ 640 ∧ Q (.int n) H
  | _ => False
def uStr : List V → Hp → VK → Prop := fun xs H Q => match xs with
  | [.int i] => i.natAbs.log2 < 1920 ∧ Q (.str (toString i)) H
  | [.str a] => Q (.str a) H
  | _ => False
/-- what repr gives of plain data -/
def ReprV (K : PySem.W.Frag) (H : Hp) (v : V) (r : Str) : Prop := (∃ d, Dp K H v d ∧ d.showable = true ∧ d.hasDict = false ∧ d.depth ≤ 60 ∧ d.shown.length ≤ sizeLine ∧ r = d.shown) ∨ ∃ a, v = .ref a ∧ H a = some (.dK []) ∧ r = "{}"
def uRepr (K : PySem.W.Frag) : List V → Hp → VK → Prop := fun xs H Q => ∃ v r, xs = [v] ∧ ReprV K H v r ∧ Q (.str r) H
section
variable {X : Cx}
theorem call_uInt : CallR X (.type "int") uInt := by
  intro pins s σ H xs us Q I r h
  match xs, h with
  | [.int i], h => exact call_int1 pins s σ H _ us Q I r (.inl ⟨i, rfl, h⟩)
  | [.bl b], h => exact call_int1 pins s σ H _ us Q I r (.inr ⟨b, rfl, h⟩)
  | [.str a], h =>
    obtain ⟨n, h1, h2, h3⟩ := h
    exact call_int_str pins s σ H _ us Q I r ⟨a, n, rfl, h1, h2, h3⟩
theorem call_uStr : CallR X (.type "str") uStr := by
  intro pins s σ H xs us Q I r h
  match xs, h with
  | [.int i], h => exact call_str_int pins s σ H _ us Q I r ⟨i, rfl, h.1, h.2⟩
  | [.str a], h => exact SkE.call_str_str pins s σ H _ us Q I r ⟨a, rfl, h⟩
theorem call_uRepr {k : Nat} (hr : Rm k X.A) : CallR X (.builtin "repr") (uRepr X.K) := by
  intro pins s σ H xs us Q I r h
  obtain ⟨v, q, rfl, hd, h⟩ := h
  have hu := hr.r.un
  obtain ⟨u, rfl⟩ : ∃ u, us = [u] := by
    cases r with
    | cons a b => cases b; exact ⟨_, rfl⟩
  have rv : RelV v u := by
    cases r with
    | cons a b => exact a
  have fin : ∀ (d : PyData) (as : List Addr) (a : Addr), u = .ref a → Reads s.heap (.ref a) d as → d.showable = true → (d.hasDict = true → sysModules ∉ as) → d.depth ≤ 60 → d.shown.length ≤ sizeLine → q = d.shown → wpAny (model X.prog X.w) X.A (call (.builtin "repr") [u]) (EP X pins σ Q) X.xe s := by
    intro d as a e rd hs hsm hdp hl hq
    subst e hq
    exact repr_of_reads' rd hs hsm hr.g (by omega) (fun _ _ z => z) (fun h' t tk k => ⟨.str d.shown, H, I.kept (t' := tk) k, ⟨_, rfl⟩, h⟩) hl
  rcases hd with ⟨d, hp, hs, hnd, hdp, hl, rfl⟩ | ⟨a, rfl, hH, rfl⟩
  · cases hp with
    | non => cases (show u = .none from rv); exact P.repr_of_none ⟨.str "None", H, I.tok _, ⟨_, rfl⟩, by simpa only [PyData.shown] using h⟩
    | bl b => cases (show u = .bool b from rv); exact P.repr_of_bool ⟨.str _, H, I.tok _, ⟨_, rfl⟩, by cases b <;> simpa only [PyData.shown] using h⟩
    | int i =>
      obtain ⟨t, rfl⟩ := (show ∃ t, u = .int i t from rv)
      exact P.repr_of_int (by simpa [PyData.showable] using hs) ⟨.str _, H, I.tok _, ⟨_, rfl⟩, by simpa only [PyData.shown] using h⟩
    | str x =>
      obtain ⟨t, rfl⟩ := (show ∃ t, u = .str x t from rv)
      exact P.repr_of_str ⟨.str _, H, I.tok _, ⟨_, rfl⟩, by simpa only [PyData.shown] using h⟩ (by simpa only [PyData.shown] using hl)
    | @lst a xs ds hq ha =>
      cases (show u = .ref a from rv)
      obtain ⟨as, rd⟩ := Dp.reads I _ _ _ (.lst hq ha) (show RelV (.ref a) (.ref a) from rfl)
      exact fin _ _ a rfl rd hs (fun z => by rw [hnd] at z; cases z) hdp hl rfl
    | @tup a xs ds hq ha =>
      cases (show u = .ref a from rv)
      obtain ⟨as, rd⟩ := Dp.reads I _ _ _ (.tup hq ha) (show RelV (.ref a) (.ref a) from rfl)
      exact fin _ _ a rfl rd hs (fun z => by rw [hnd] at z; cases z) hdp hl rfl
  · cases (show u = .ref a from rv)
    obtain ⟨_, hsys, vs, kv, o, es, ep, ho, hx, hdt, _, he, _⟩ := (show ObjOk X.prog X.w H s.heap a (.dK []) from I.hok a _ hH)
    cases kv
    have hes : es = #[] := by
      have z : es.toList = [] := by
        cases q : es.toList with
        | nil => rfl
        | cons b l => rw [q] at he; cases he
      exact Array.toList_eq_nil_iff.mp z
    subst hes
    have rd : Reads s.heap (.ref a) (.dict []) _ := Reads.dict ho hx.1 hdt .nil .nil
    refine fin (.dict []) _ a rfl rd (by simp [PyData.showable, PyData.showableKv]) (fun _ hm => ?_) (by simp [PyData.depth, PyData.depthKv]) (by decide +kernel) (by decide +kernel)
    have z : sysModules = a := by simpa using hm
    rw [z] at hsys
    simp at hsys
end
end Uv

set_option Elab.async false
set_option linter.all false
set_option maxRecDepth 100000
set_option maxHeartbeats 4000000
namespace Uv
open PySem PySem.Spec L2
open PyProof.Rows hiding St
/-- the built-in names that the module leaves alone -/
structure Bi (mg : Str → Option Value) : Prop where
  isinstance : mg "isinstance" = none
  len : mg "len" = none
  abs : mg "abs" = none
  repr : mg "repr" = none
  max : mg "max" = none
  min : mg "min" = none
  sum : mg "sum" = none
  all : mg "all" = none
  any : mg "any" = none
  sorted : mg "sorted" = none
  int : mg "int" = none
  str : mg "str" = none
  list : mg "list" = none
  tuple : mg "tuple" = none
  bool : mg "bool" = none
  dict : mg "dict" = none
  range : mg "range" = none
  enumerate : mg "enumerate" = none
  zip : mg "zip" = none
  iter : mg "iter" = none
  reversed : mg "reversed" = none
  super : mg "super" = none
  ValueError : mg "ValueError" = none
def biNames : List Str := ["isinstance", "len", "abs", "repr", "max", "min", "sum", "all", "any", "sorted", "int", "str", "list", "tuple", "bool", "dict", "range", "enumerate", "zip", "iter", "reversed", "super", "ValueError"]
theorem Bi.of {mg : Str → Option Value} (h : ∀ (i : Nat) (x : Str), biNames[i]? = some x → mg x = none) : Bi mg :=
  ⟨h 0 _ rfl, h 1 _ rfl, h 2 _ rfl, h 3 _ rfl, h 4 _ rfl, h 5 _ rfl, h 6 _ rfl, h 7 _ rfl, h 8 _ rfl, h 9 _ rfl, h 10 _ rfl, h 11 _ rfl, h 12 _ rfl, h 13 _ rfl, h 14 _ rfl, h 15 _ rfl, h 16 _ rfl, h 17 _ rfl, h 18 _ rfl, h 19 _ rfl, h 20 _ rfl, h 21 _ rfl, h 22 _ rfl⟩
theorem b_isinstance : bootBuiltins "isinstance" = some (.builtin "isinstance") := by first | rfl | decide +kernel
theorem b_len : bootBuiltins "len" = some (.builtin "len") := by first | rfl | decide +kernel
theorem b_abs : bootBuiltins "abs" = some (.builtin "abs") := by first | rfl | decide +kernel
theorem b_repr : bootBuiltins "repr" = some (.builtin "repr") := by first | rfl | decide +kernel
theorem b_max : bootBuiltins "max" = some (.builtin "max") := by first | rfl | decide +kernel
theorem b_min : bootBuiltins "min" = some (.builtin "min") := by first | rfl | decide +kernel
theorem b_sum : bootBuiltins "sum" = some (.builtin "sum") := by first | rfl | decide +kernel
theorem b_all : bootBuiltins "all" = some (.builtin "all") := by first | rfl | decide +kernel
theorem b_any : bootBuiltins "any" = some (.builtin "any") := by first | rfl | decide +kernel
theorem b_sorted : bootBuiltins "sorted" = some (.builtin "sorted") := by first | rfl | decide +kernel
theorem b_int : bootBuiltins "int" = some (.type "int") := by first | rfl | decide +kernel
theorem b_str : bootBuiltins "str" = some (.type "str") := by first | rfl | decide +kernel
theorem b_list : bootBuiltins "list" = some (.type "list") := by first | rfl | decide +kernel
theorem b_tuple : bootBuiltins "tuple" = some (.type "tuple") := by first | rfl | decide +kernel
theorem b_bool : bootBuiltins "bool" = some (.type "bool") := by first | rfl | decide +kernel
theorem b_dict : bootBuiltins "dict" = some (.type "dict") := by first | rfl | decide +kernel
theorem b_ValueError : bootBuiltins "ValueError" = some (.type "ValueError") := by first | rfl | decide +kernel
section
variable {X : Cx}
def uSl (K : PySem.W.Frag) : V → Option Int → Option Int → Hp → VK → Prop := fun x lo hi H Q => match x with
  | .str z => z.length ≤ sizeLine ∧ Q (.str (cutS z lo hi)) H
  | x => rSlL K x lo hi H Q ∨ rSlA K x lo hi H Q
theorem sl_u : SlR X (uSl X.K) := by
  intro pins s σ H x v vl vu lo hi sl Q I rx hs pl pu h
  cases x with
  | str z => exact sl_str pins s σ H _ v vl vu lo hi sl Q I rx hs pl pu ⟨z, rfl, h.1, h.2⟩
  | _ =>
    rcases h with h | h
    · exact sl_list pins s σ H _ v vl vu lo hi sl Q I rx hs pl pu h
    · exact sl_tupA pins s σ H _ v vl vu lo hi sl Q I rx hs pl pu h
end
/-! the type of a piece of data, isinstance of built-in types -/
def tyD : PyData → String
  | .none => "NoneType"
  | .bool _ => "bool"
  | .int _ => "int"
  | .str _ => "str"
  | .list _ => "list"
  | .tuple _ => "tuple"
  | .dict _ => "dict"
theorem tyx_of {K : PySem.W.Frag} {H : Hp} {v : V} {d : PyData} (h : Dp K H v d) : TyX K H v (.type (tyD d)) := by
  cases h with
  | non => exact .base .non
  | bl b => exact .base (.bl b)
  | int i => exact .base (.int i)
  | str x => exact .base (.str x)
  | lst hs _ =>
    rcases hs with (h | ⟨o, h⟩) | ⟨o, its, n, hk, hc, _⟩
    · exact .base (.lst h)
    · exact .base (.frz h)
    · exact .kList hk hc
  | tup hs _ =>
    rcases hs with (h | ⟨o, h⟩) | ⟨o, its, n, hk, hc, _⟩
    · exact .base (.tup h)
    · exact .fTuple h
    · exact .kTuple hk hc
def isB (d : PyData) (n : String) : Bool := match d, n with
  | .bool _, "int" => true
  | d, n => tyD d == n
theorem kit_int : ∀ {K : PySem.W.Frag} (d : PyData), PySem.W.kitOne K (.type (tyD d)) (.type "int") = some (match d with | .int _ => true | .bool _ => true | _ => false)
  | K, .none => kit_ty (show kitB "NoneType" "int" = some false from by decide +kernel)
  | K, .bool _ => kit_ty (show kitB "bool" "int" = some true from by decide +kernel)
  | K, .int _ => kit_ty (show kitB "int" "int" = some true from by decide +kernel)
  | K, .str _ => kit_ty (show kitB "str" "int" = some false from by decide +kernel)
  | K, .list _ => kit_ty (show kitB "list" "int" = some false from by decide +kernel)
  | K, .tuple _ => kit_ty (show kitB "tuple" "int" = some false from by decide +kernel)
  | K, .dict _ => kit_ty (show kitB "dict" "int" = some false from by decide +kernel)
theorem kit_bool : ∀ {K : PySem.W.Frag} (d : PyData), PySem.W.kitOne K (.type (tyD d)) (.type "bool") = some (match d with | .bool _ => true | _ => false)
  | K, .none => kit_ty (show kitB "NoneType" "bool" = some false from by decide +kernel)
  | K, .bool _ => kit_ty (show kitB "bool" "bool" = some true from by decide +kernel)
  | K, .int _ => kit_ty (show kitB "int" "bool" = some false from by decide +kernel)
  | K, .str _ => kit_ty (show kitB "str" "bool" = some false from by decide +kernel)
  | K, .list _ => kit_ty (show kitB "list" "bool" = some false from by decide +kernel)
  | K, .tuple _ => kit_ty (show kitB "tuple" "bool" = some false from by decide +kernel)
  | K, .dict _ => kit_ty (show kitB "dict" "bool" = some false from by decide +kernel)
theorem kit_str : ∀ {K : PySem.W.Frag} (d : PyData), PySem.W.kitOne K (.type (tyD d)) (.type "str") = some (match d with | .str _ => true | _ => false)
  | K, .none => kit_ty (show kitB "NoneType" "str" = some false from by decide +kernel)
  | K, .bool _ => kit_ty (show kitB "bool" "str" = some false from by decide +kernel)
  | K, .int _ => kit_ty (show kitB "int" "str" = some false from by decide +kernel)
  | K, .str _ => kit_ty (show kitB "str" "str" = some true from by decide +kernel)
  | K, .list _ => kit_ty (show kitB "list" "str" = some false from by decide +kernel)
  | K, .tuple _ => kit_ty (show kitB "tuple" "str" = some false from by decide +kernel)
  | K, .dict _ => kit_ty (show kitB "dict" "str" = some false from by decide +kernel)
theorem kit_tuple : ∀ {K : PySem.W.Frag} (d : PyData), PySem.W.kitOne K (.type (tyD d)) (.type "tuple") = some (match d with | .tuple _ => true | _ => false)
  | K, .none => kit_ty (show kitB "NoneType" "tuple" = some false from by decide +kernel)
  | K, .bool _ => kit_ty (show kitB "bool" "tuple" = some false from by decide +kernel)
  | K, .int _ => kit_ty (show kitB "int" "tuple" = some false from by decide +kernel)
  | K, .str _ => kit_ty (show kitB "str" "tuple" = some false from by decide +kernel)
  | K, .list _ => kit_ty (show kitB "list" "tuple" = some false from by decide +kernel)
  | K, .tuple _ => kit_ty (show kitB "tuple" "tuple" = some true from by decide +kernel)
  | K, .dict _ => kit_ty (show kitB "dict" "tuple" = some false from by decide +kernel)
theorem kit_list : ∀ {K : PySem.W.Frag} (d : PyData), PySem.W.kitOne K (.type (tyD d)) (.type "list") = some (match d with | .list _ => true | _ => false)
  | K, .none => kit_ty (show kitB "NoneType" "list" = some false from by decide +kernel)
  | K, .bool _ => kit_ty (show kitB "bool" "list" = some false from by decide +kernel)
  | K, .int _ => kit_ty (show kitB "int" "list" = some false from by decide +kernel)
  | K, .str _ => kit_ty (show kitB "str" "list" = some false from by decide +kernel)
  | K, .list _ => kit_ty (show kitB "list" "list" = some true from by decide +kernel)
  | K, .tuple _ => kit_ty (show kitB "tuple" "list" = some false from by decide +kernel)
  | K, .dict _ => kit_ty (show kitB "dict" "list" = some false from by decide +kernel)
section
variable {K : PySem.W.Frag} {H : Hp} {Q : VK} {v : V} {d : PyData}
abbrev isIntD : PyData → Bool | .int _ => true | .bool _ => true | _ => false
abbrev isBoolD : PyData → Bool | .bool _ => true | _ => false
abbrev isStrD : PyData → Bool | .str _ => true | _ => false
abbrev isTupD : PyData → Bool | .tuple _ => true | _ => false
abbrev isListD : PyData → Bool | .list _ => true | _ => false
theorem s_isInt (h : Dp K H v d) (q : Q (.bl (isIntD d)) H) : rIsi K [v, .ty "int"] H Q := ⟨v, .ty "int", _, _, _, rfl, .ty _, tyx_of h, kit_int d, by cases d <;> exact q⟩
theorem s_isBool (h : Dp K H v d) (q : Q (.bl (isBoolD d)) H) : rIsi K [v, .ty "bool"] H Q := ⟨v, .ty "bool", _, _, _, rfl, .ty _, tyx_of h, kit_bool d, by cases d <;> exact q⟩
theorem s_isStr (h : Dp K H v d) (q : Q (.bl (isStrD d)) H) : rIsi K [v, .ty "str"] H Q := ⟨v, .ty "str", _, _, _, rfl, .ty _, tyx_of h, kit_str d, by cases d <;> exact q⟩
theorem s_isTup (h : Dp K H v d) (q : Q (.bl (isTupD d)) H) : rIsi K [v, .ty "tuple"] H Q := ⟨v, .ty "tuple", _, _, _, rfl, .ty _, tyx_of h, kit_tuple d, by cases d <;> exact q⟩
theorem s_isList (h : Dp K H v d) (q : Q (.bl (isListD d)) H) : rIsi K [v, .ty "list"] H Q := ⟨v, .ty "list", _, _, _, rfl, .ty _, tyx_of h, kit_list d, by cases d <;> exact q⟩
end
end Uv

set_option Elab.async false
set_option linter.all false
set_option maxRecDepth 100000
set_option maxHeartbeats 4000000
namespace Uv
open PySem PySem.Spec L2
open PyProof.Rows hiding St
/-! ### the bag from which a law draws -/
def bagK (c : Addr) (at_ rest mixed count : Int) : List (Key × V) := [(.inr "cells", .ref c), (.inr "at", .int at_), (.inr "rest", .int rest), (.inr "mixed", .int mixed), (.inr "count", .int count)]
structure BagIs (H : Hp) (b c : Addr) (ns : List Int) (at_ rest mixed count : Int) : Prop where
  d : H b = some (.dK (bagK c at_ rest mixed count))
  l : H c = some (.lst (ns.map V.int))
  nn : 0 ≤ at_
  sz : ns.length ≤ 63
def BagAt (H : Hp) (b : Addr) : Prop := ∃ c ns at_ rest mixed count, BagIs H b c ns at_ rest mixed count
/-- the bag with its cells at c -/
def BagIn (H : Hp) (b c : Addr) : Prop := ∃ ns at_ rest mixed count, BagIs H b c ns at_ rest mixed count
theorem BagIn.at {H : Hp} {b c : Addr} (h : BagIn H b c) : BagAt H b := ⟨c, h⟩
theorem BagIn.one {H : Hp} {b c d : Addr} (h : BagIn H b c) (g : BagIn H b d) : c = d := by
  obtain ⟨ns, a, r, m, k, x⟩ := h
  obtain ⟨ns', a', r', m', k', y⟩ := g
  have e := x.d.symm.trans y.d
  simp only [Option.some.injEq, HO.dK.injEq, bagK, List.cons.injEq, Prod.mk.injEq, V.ref.injEq, true_and] at e
  exact e.1
theorem BagIn.ex {b c : Addr} {H H' : Hp} (h : BagIn H b c) (e : Ex H H') : BagIn H' b c := by
  obtain ⟨ns, a, r, m, k, x⟩ := h
  exact ⟨ns, a, r, m, k, e _ _ x.d, e _ _ x.l, x.nn, x.sz⟩
/-- all but the bag stands -/
structure Kb (b : Addr) (H H' : Hp) : Prop where
  bag : ∃ c, BagIn H b c ∧ BagIn H' b c
  keep : ∀ a o, a ≠ b → H a = some o → H' a = some o
theorem Kb.b0 {b : Addr} {H H' : Hp} (x : Kb b H H') : BagAt H b := let ⟨_, h, _⟩ := x.bag; h.at
theorem Kb.b1 {b : Addr} {H H' : Hp} (x : Kb b H H') : BagAt H' b := let ⟨_, _, h⟩ := x.bag; h.at
theorem Kb.refl {b : Addr} {H : Hp} (h : BagAt H b) : Kb b H H := let ⟨c, h⟩ := h; ⟨⟨c, h, h⟩, fun _ _ _ e => e⟩
theorem Kb.tr {b : Addr} {H H1 H2 : Hp} (x : Kb b H H1) (y : Kb b H1 H2) : Kb b H H2 := by
  obtain ⟨c, h1, h2⟩ := x.bag
  obtain ⟨d, g1, g2⟩ := y.bag
  have e := h2.one g1
  subst e
  exact ⟨⟨c, h1, g2⟩, fun a o n e => y.keep a o n (x.keep a o n e)⟩
theorem BagAt.ex {b : Addr} {H H' : Hp} (h : BagAt H b) (e : Ex H H') : BagAt H' b := by
  obtain ⟨c, h⟩ := h
  exact (BagIn.ex (c := c) h e).at
theorem Ex.kb {b : Addr} {H H' : Hp} (e : Ex H H') (h : BagAt H b) : Kb b H H' := let ⟨c, h⟩ := h; ⟨⟨c, h, BagIn.ex h e⟩, fun a o _ z => e a o z⟩
/-- an object that was not there is laid anew -/
theorem Kb.put {b d : Addr} {H H' : Hp} (x : Kb b H H') (n : H d = none) (o : HO) : Kb b H (upd H' d o) := by
  obtain ⟨c, h1, ns, a, r, m, k, y⟩ := x.bag
  have h1' := h1
  obtain ⟨_, _, _, _, _, z⟩ := h1
  have nb : b ≠ d := fun q => by rw [← q, z.d] at n; cases n
  have nc : c ≠ d := fun q => by rw [← q, z.l] at n; cases n
  exact ⟨⟨c, h1', ns, a, r, m, k, by rw [upd_ne nb]; exact y.d, by rw [upd_ne nc]; exact y.l, y.nn, y.sz⟩, fun a' o' na e => by
    rw [upd_ne (fun q => by rw [q, n] at e; cases e)]
    exact x.keep a' o' na e⟩
theorem Kb.at {b a : Addr} {H H' : Hp} {o : HO} (x : Kb b H H') (e : H a = some o) (n : ∀ kvs, o ≠ .dK kvs) : H' a = some o := by
  obtain ⟨c, ns, at_, r, m, k, y⟩ := x.b0
  exact x.keep a o (fun z => by rw [z, y.d] at e; exact n _ (Option.some.inj e).symm) e
theorem Kb.rd {b a : Addr} {H H' : Hp} {o : HO} (x : Kb b H H') (e : Rd H a o) (n : ∀ kvs, o ≠ .dK kvs) : Rd H' a o := by
  rcases e with e | ⟨u, e⟩
  · exact .inl (x.at e n)
  · exact .inr ⟨u, x.at e fun _ z => by cases z⟩
theorem Kb.l {b a : Addr} {K : PySem.W.Frag} {H H' : Hp} {xs : List V} (x : Kb b H H') (h : SqL K H a xs) : SqL K H' a xs := by
  rcases h with h | h
  · exact .inl (x.rd h fun _ z => by cases z)
  · exact .inr h
theorem Kb.t {b a : Addr} {K : PySem.W.Frag} {H H' : Hp} {xs : List V} (x : Kb b H H') (h : SqT K H a xs) : SqT K H' a xs := by
  rcases h with h | h
  · exact .inl (x.rd h fun _ z => by cases z)
  · exact .inr h
mutual
theorem dp_kb {K : PySem.W.Frag} {b : Addr} {H H' : Hp} (e : Kb b H H') : ∀ (d : PyData) (v : V), Dp K H v d → Dp K H' v d
  | .none, _, h => by cases h; exact .non
  | .bool b, _, h => by cases h; exact .bl b
  | .int i, _, h => by cases h; exact .int i
  | .str x, _, h => by cases h; exact .str x
  | .list ds, _, h => by
    cases h with
    | lst hs ha => exact .lst (e.l hs) (dpa_kb e ds _ ha)
  | .tuple ds, _, h => by
    cases h with
    | tup hs ha => exact .tup (e.t hs) (dpa_kb e ds _ ha)
  | .dict _, _, h => by cases h
theorem dpa_kb {K : PySem.W.Frag} {b : Addr} {H H' : Hp} (e : Kb b H H') : ∀ (ds : List PyData) (vs : List V), DpAll K H vs ds → DpAll K H' vs ds
  | [], _, h => by cases h; exact .nil
  | d :: ds, _, h => by
    cases h with
    | cons a b => exact .cons (dp_kb e d _ a) (dpa_kb e ds _ b)
end
theorem Kb.dp {K : PySem.W.Frag} {b : Addr} {H H' : Hp} {v : V} {d : PyData} (x : Kb b H H') (h : Dp K H v d) : Dp K H' v d := dp_kb x d v h

/-! its entries read and stored -/
section
variable {H : Hp} {Q : VK} {b c : Addr} {at_ rest mixed count : Int} {D : Ends} {σ : L2.St}
theorem key_ne {x y : Str} (h : (x == y) = false) : ¬ ((.inr x : Key) = .inr y) := fun z => by
  have e : x = y := Sum.inr.inj z
  rw [e] at h
  simp at h
theorem bv_cells : valV (bagK c at_ rest mixed count) (.inr "cells") = some (.ref c) := valV_pos rfl
theorem bv_at : valV (bagK c at_ rest mixed count) (.inr "at") = some (.int at_) := by
  unfold bagK
  rw [valV_neg (key_ne (by decide +kernel)), valV_pos rfl]
theorem bv_rest : valV (bagK c at_ rest mixed count) (.inr "rest") = some (.int rest) := by
  unfold bagK
  rw [valV_neg (key_ne (by decide +kernel)), valV_neg (key_ne (by decide +kernel)), valV_pos rfl]
theorem bv_mixed : valV (bagK c at_ rest mixed count) (.inr "mixed") = some (.int mixed) := by
  unfold bagK
  rw [valV_neg (key_ne (by decide +kernel)), valV_neg (key_ne (by decide +kernel)), valV_neg (key_ne (by decide +kernel)), valV_pos rfl]
theorem bv_count : valV (bagK c at_ rest mixed count) (.inr "count") = some (.int count) := by
  unfold bagK
  rw [valV_neg (key_ne (by decide +kernel)), valV_neg (key_ne (by decide +kernel)), valV_neg (key_ne (by decide +kernel)), valV_neg (key_ne (by decide +kernel)), valV_pos rfl]
theorem put_pos {kvs : List (Key × V)} {k : Key} {v w : V} (h : valV kvs k = some w) : putK kvs k v = kvs.map fun kv => if kv.1 = k then (kv.1, v) else kv := by
  unfold putK
  rw [valV_any, h]
  rfl
theorem bp_at {i : Int} : putK (bagK c at_ rest mixed count) (.inr "at") (.int i) = bagK c i rest mixed count := by
  rw [put_pos bv_at]
  unfold bagK
  simp only [List.map_cons, List.map_nil, if_neg (key_ne (show (("cells" : Str) == "at") = false by decide +kernel)), if_neg (key_ne (show (("rest" : Str) == "at") = false by decide +kernel)), if_neg (key_ne (show (("mixed" : Str) == "at") = false by decide +kernel)), if_neg (key_ne (show (("count" : Str) == "at") = false by decide +kernel)), if_true]
theorem bp_rest {i : Int} : putK (bagK c at_ rest mixed count) (.inr "rest") (.int i) = bagK c at_ i mixed count := by
  rw [put_pos bv_rest]
  unfold bagK
  simp only [List.map_cons, List.map_nil, if_neg (key_ne (show (("cells" : Str) == "rest") = false by decide +kernel)), if_neg (key_ne (show (("at" : Str) == "rest") = false by decide +kernel)), if_neg (key_ne (show (("mixed" : Str) == "rest") = false by decide +kernel)), if_neg (key_ne (show (("count" : Str) == "rest") = false by decide +kernel)), if_true]
theorem bp_mixed {i : Int} : putK (bagK c at_ rest mixed count) (.inr "mixed") (.int i) = bagK c at_ rest i count := by
  rw [put_pos bv_mixed]
  unfold bagK
  simp only [List.map_cons, List.map_nil, if_neg (key_ne (show (("cells" : Str) == "mixed") = false by decide +kernel)), if_neg (key_ne (show (("at" : Str) == "mixed") = false by decide +kernel)), if_neg (key_ne (show (("rest" : Str) == "mixed") = false by decide +kernel)), if_neg (key_ne (show (("count" : Str) == "mixed") = false by decide +kernel)), if_true]
theorem bp_count {i : Int} : putK (bagK c at_ rest mixed count) (.inr "count") (.int i) = bagK c at_ rest mixed i := by
  rw [put_pos bv_count]
  unfold bagK
  simp only [List.map_cons, List.map_nil, if_neg (key_ne (show (("cells" : Str) == "count") = false by decide +kernel)), if_neg (key_ne (show (("at" : Str) == "count") = false by decide +kernel)), if_neg (key_ne (show (("rest" : Str) == "count") = false by decide +kernel)), if_neg (key_ne (show (("mixed" : Str) == "count") = false by decide +kernel)), if_true]
variable {ns : List Int} {td ty tv : TE} {i : Nat}
theorem bag_get {P : V → Hp → Prop} {k : Str} {v : V} (h : BagIs H b c ns at_ rest mixed count) (e : valV (bagK c at_ rest mixed count) (.inr k) = some v) (q : P v H) : ∃ a w, V.ref b = V.ref a ∧ DGet H a (.str k) (some w) ∧ P w H :=
  ⟨b, v, rfl, by rw [← e]; exact DGet.k (k := .inr k) h.d, q⟩
theorem bag_put {P : Hp → Prop} {k : Str} {v : V} {kvs : List (Key × V)} (h : BagIs H b c ns at_ rest mixed count) (e : putK (bagK c at_ rest mixed count) (.inr k) v = kvs) (q : P (upd H b (.dK kvs))) : ∃ a H', V.ref b = V.ref a ∧ DPut H a (.str k) v H' ∧ P H' :=
  ⟨b, _, rfl, DPut.k (k := .inr k) h.d (by show 5 < sizeLine; decide), by rw [e]; exact q⟩
theorem bag_upd {a' r' m' k' : Int} (h : BagIs H b c ns at_ rest mixed count) (n : 0 ≤ a') : BagIs (upd H b (.dK (bagK c a' r' m' k'))) b c ns a' r' m' k' ∧ Kb b H (upd H b (.dK (bagK c a' r' m' k'))) := by
  have x : BagIs (upd H b (.dK (bagK c a' r' m' k'))) b c ns a' r' m' k' := ⟨upd_same, by rw [upd_ne (ne_of h.l h.d (by intro z; cases z))]; exact h.l, n, h.sz⟩
  exact ⟨x, ⟨c, ⟨_, _, _, _, _, h⟩, ⟨_, _, _, _, _, x⟩⟩, fun a o na e => by rw [upd_ne na]; exact e⟩
theorem s_bget {k : Str} {v : V} {σ : L2.St} {Q : VK} (h : BagIs H b c ns at_ rest mixed count) (hv : σ[i]? = some (some (.ref b))) (e : valV (bagK c at_ rest mixed count) (.inr k) = some v) (q : Q v H) : tDGet (tVar i) (tC (.str k)) σ H Q :=
  ⟨_, hv, b, v, rfl, by rw [← e]; exact DGet.k (k := .inr k) h.d, q⟩
theorem s_bput {k : Str} {w : V} {a' r' m' k' : Int} {P : Hp → Prop} (h : BagIs H b c ns at_ rest mixed count) (e : putK (bagK c at_ rest mixed count) (.inr k) w = bagK c a' r' m' k') (z : 0 ≤ a') (q : ∀ H', BagIs H' b c ns a' r' m' k' → Kb b H H' → P H') : ∃ a H', V.ref b = V.ref a ∧ DPut H a (.str k) w H' ∧ P H' :=
  ⟨b, _, rfl, DPut.k (k := .inr k) h.d (by show 5 < sizeLine; decide), by rw [e]; exact q _ (bag_upd h z).1 (bag_upd h z).2⟩
end
theorem valV_no {kvs : List (Key × V)} {k : Key} (h : ∀ kv ∈ kvs, kv.1 ≠ k) : valV kvs k = none := by
  induction kvs with
  | nil => rfl
  | cons a r ih => rw [valV_neg (h a List.mem_cons_self)]; exact ih fun kv m => h kv (List.mem_cons_of_mem _ m)
theorem fold_new : ∀ (kvs acc : List (Key × V)), ((acc ++ kvs).map (·.1)).Nodup → kvs.foldl (fun acc kv => putK acc kv.1 kv.2) acc = acc ++ kvs
  | [], acc, _ => by simp
  | (k, v) :: r, acc, h => by
    have z : valV acc k = none := valV_no fun kv m e => by
      rw [List.map_append, List.nodup_append] at h
      exact h.2.2 kv.1 (List.mem_map.mpr ⟨kv, m, rfl⟩) k (by simp) e
    rw [List.foldl_cons, putK_new v z, fold_new r (acc ++ [(k, v)]) (by rw [List.append_assoc]; exact h), List.append_assoc]
    rfl
/-- a dict display whose keys differ -/
theorem merge_new {kvs : List (Key × V)} (h : (kvs.map (·.1)).Nodup) : mergeK [] kvs = kvs := fold_new kvs [] h
/-- a call of a def that draws: any number below many -/
def spPick : Sp := fun vs H Q E => ∃ (b : Addr) (m : Int), vs = [.ref b, .int m] ∧ BagAt H b ∧ 0 < m ∧ m.natAbs.log2 < 9000 ∧ ∀ r H', 0 ≤ r → r < m → Kb b H H' → Q (.int r) H'
end Uv

set_option Elab.async false
set_option linter.all false
set_option maxRecDepth 100000
set_option maxHeartbeats 4000000
namespace Uv
open PySem PySem.Spec L2
open PyProof.Rows hiding St
def uLen (K : PySem.W.Frag) : List V → Hp → VK → Prop := fun xs H Q => match xs with
  | [.str z] => z.length ≤ sizeLine ∧ Q (.int (z.length : Int)) H
  | [.ref p] => ∃ ys, (SqL K H p ys ∨ SqT K H p ys) ∧ Q (.int (ys.length : Int)) H
  | _ => False
def uAbs : List V → Hp → VK → Prop := fun xs H Q => match xs with
  | [.int i] => Q (.int (i.natAbs : Int)) H
  | _ => False
def uMax : List V → Hp → VK → Prop := fun xs H Q => match xs with
  | [.int i, .int j] => Q (.int (max i j)) H
  | _ => False
def uMin : List V → Hp → VK → Prop := fun xs H Q => match xs with
  | [.int i, .int j] => Q (.int (min i j)) H
  | _ => False
def uGcd : List V → Hp → VK → Prop := fun xs H Q => match xs with
  | [.int i, .int j] => Q (.int (Int.gcd i j : Int)) H
  | _ => False
def uInS (neg : Bool) : R2 := fun x y H Q => match x, y with
  | .str a, .str b => ∃ c, a = ⟨#[c]⟩ ∧ Q (.bl (neg.xor (decide (c ∈ b.cps.toList)))) H
  | _, _ => False
section
variable {X : Cx}
theorem call_uLen : CallR X (.builtin "len") (uLen X.K) := by
  intro pins s σ H xs us Q I r h
  match xs, h with
  | [.str z], h => exact call_len pins s σ H _ us Q I r ⟨.str z, z.length, rfl, ⟨h.1, rfl⟩, h.2⟩
  | [.ref p], h =>
    obtain ⟨ys, h1, h2⟩ := h
    refine call_len pins s σ H _ us Q I r ⟨.ref p, ys.length, rfl, ?_, h2⟩
    rcases h1 with h1 | h1
    · exact .inl ⟨ys, h1, rfl⟩
    · exact .inr ⟨ys, h1, rfl⟩
theorem call_uAbs : CallR X (.builtin "abs") uAbs := by
  intro pins s σ H xs us Q I r h
  match xs, h with
  | [.int i], h =>
    refine call_abs pins s σ H _ us Q I r ⟨i, rfl, ?_⟩
    have e : (if i < 0 then -i else i) = (i.natAbs : Int) := by split <;> omega
    rw [e]
    exact h
theorem call_uMax (hc : X.calm = true) : CallR X (.builtin "max") uMax := by
  intro pins s σ H xs us Q I r h
  match xs, h with
  | [.int i, .int j], h =>
    refine call_max2 hc pins s σ H _ us Q I r ⟨i, j, rfl, ?_⟩
    have e : (if j > i then j else i) = max i j := by split <;> omega
    rw [e]
    exact h
theorem call_uMin (hc : X.calm = true) : CallR X (.builtin "min") uMin := by
  intro pins s σ H xs us Q I r h
  match xs, h with
  | [.int i, .int j], h =>
    refine call_min2 hc pins s σ H _ us Q I r ⟨i, j, rfl, ?_⟩
    have e : (if j < i then j else i) = min i j := by split <;> omega
    rw [e]
    exact h
theorem call_uGcd : CallR X (.builtin "math.gcd") uGcd := by
  intro pins s σ H xs us Q I r h
  match xs, h with
  | [.int i, .int j], h => exact cr_gcd pins s σ H _ us Q I r ⟨i, j, rfl, h⟩
theorem op_uIn : OpR X (compareOp .In) (uInS false) := by
  intro pins s σ H x y u v Q I rx ry h
  cases x with
  | str a =>
    cases y with
    | str b =>
      obtain ⟨c, rfl, q⟩ := h
      exact op_in_sign pins s σ H _ _ _ _ Q I rx ry ⟨c, b, rfl, rfl, by simpa using q⟩
    | _ => exact h.elim
  | _ => exact h.elim
theorem op_uNotIn : OpR X (compareOp .NotIn) (uInS true) := by
  intro pins s σ H x y u v Q I rx ry h
  cases x with
  | str a =>
    cases y with
    | str b =>
      obtain ⟨c, rfl, q⟩ := h
      exact op_notIn_sign pins s σ H _ _ _ _ Q I rx ry ⟨c, b, rfl, rfl, by simpa using q⟩
    | _ => exact h.elim
  | _ => exact h.elim
/-- a module's constant -/
theorem pe_gS {x z : Str} {pos : Pos} (h : ∃ t, X.mg x = some (.str z t)) (hg : Gl X x := by rfl) (hd : (x == ("__debug__" : Str)) = false := by decide) : PE X (.Name x pos) (tC (.str z)) := by
  obtain ⟨t, h⟩ := h
  exact pe_glob hg h ⟨t, rfl⟩ hd
theorem pe_gI {x : Str} {i : Int} {pos : Pos} (h : ∃ t, X.mg x = some (.int i t)) (hg : Gl X x := by rfl) (hd : (x == ("__debug__" : Str)) = false := by decide) : PE X (.Name x pos) (tC (.int i)) := by
  obtain ⟨t, h⟩ := h
  exact pe_glob hg h ⟨t, rfl⟩ hd
theorem pe_gR {x : Str} {a : Addr} {pos : Pos} (h : X.mg x = some (.ref a)) (hg : Gl X x := by rfl) (hd : (x == ("__debug__" : Str)) = false := by decide) : PE X (.Name x pos) (tC (.ref a)) := pe_glob hg h rfl hd
end
section
variable {σ : L2.St} {H : Hp} {Q : VK} {QB : Bool → Hp → Prop} {D : Ends} {ta tb te td ty tv : TE} {v x y : V} {i : Nat} {K : PySem.W.Frag}
theorem s_dget (h : td σ H fun x H1 => ty σ H1 fun y H2 => ∃ a v, x = .ref a ∧ DGet H2 a y (some v) ∧ Q v H2) : tDGet td ty σ H Q := h
theorem s_dput (h : tv σ H fun v H1 => td σ H1 fun x H2 => ty σ H2 fun y H3 => ∃ a H4, x = .ref a ∧ DPut H3 a y v H4 ∧ D.nx σ H4) : sDPut td ty tv D σ H := h
theorem s_mod {a b : Int} (c : 0 < b) (h : Q (.int (a % b)) H) : rI (fun _ j => 0 < j) (fun i j => .int (i % j)) (.int a) (.int b) H Q := ⟨a, b, rfl, rfl, c, h⟩
theorem s_pow {a b : Int} (c : CPow a b) (h : Q (.int (a ^ b.toNat)) H) : rI CPow (fun i j => .int (i ^ j.toNat)) (.int a) (.int b) H Q := ⟨a, b, rfl, rfl, c, h⟩
theorem s_int {a : Int} (h : Q (.int a) H) : uInt [.int a] H Q := h
theorem s_intB {b : Bool} (h : Q (.int (if b then 1 else 0)) H) : uInt [.bl b] H Q := h
theorem s_intS {a : Str} {n : Int} (e : PySem.intText? a = some n) (l : a.length ≤ 640) (h : Q (.int n) H) : uInt [.str a] H Q := ⟨n, e, l, h⟩
theorem s_strI {a : Int} (c : a.natAbs.log2 < 1920) (h : Q (.str (toString a)) H) : uStr [.int a] H Q := ⟨c, h⟩
theorem s_strS {a : Str} (h : Q (.str a) H) : uStr [.str a] H Q := h
theorem s_lenS {z : Str} (c : z.length ≤ sizeLine) (h : Q (.int (z.length : Int)) H) : uLen K [.str z] H Q := ⟨c, h⟩
theorem s_lenL {p : Addr} {ys : List V} (c : SqL K H p ys) (h : Q (.int (ys.length : Int)) H) : uLen K [.ref p] H Q := ⟨ys, .inl c, h⟩
theorem s_lenT {p : Addr} {ys : List V} (c : SqT K H p ys) (h : Q (.int (ys.length : Int)) H) : uLen K [.ref p] H Q := ⟨ys, .inr c, h⟩
theorem s_abs {a : Int} (h : Q (.int (a.natAbs : Int)) H) : uAbs [.int a] H Q := h
theorem s_max {a b : Int} (h : Q (.int (max a b)) H) : uMax [.int a, .int b] H Q := h
theorem s_min {a b : Int} (h : Q (.int (min a b)) H) : uMin [.int a, .int b] H Q := h
theorem s_gcd {a b : Int} (h : Q (.int (Int.gcd a b : Int)) H) : uGcd [.int a, .int b] H Q := h
theorem s_inS {neg : Bool} {c : Nat} {b : Str} (h : Q (.bl (neg.xor (decide (c ∈ b.cps.toList)))) H) : uInS neg (.str ⟨#[c]⟩) (.str b) H Q := ⟨c, rfl, h⟩
theorem s_chain {r r' : R2} {tc : TE} (h : ta σ H fun x H1 => tb σ H1 fun y H2 => r x y H2 fun z H3 => ∃ k, z = .bl k ∧ (if k = true then tc σ H3 fun w' H4 => r' y w' H4 Q else Q (.bl false) H3)) : tChain r r' ta tb tc σ H Q := h
theorem s_sl {r : V → Option Int → Option Int → Hp → VK → Prop} {tl th : TO} (h : te σ H fun x H1 => tl σ H1 fun l H2 => th σ H2 fun u H3 => r x l u H3 Q) : tSl r te tl th σ H Q := h
theorem s_noP {QO : Option Int → Hp → Prop} (h : QO none H) : tNoPart σ H QO := h
theorem s_part {QO : Option Int → Hp → Prop} (h : te σ H fun x H1 => ∃ i, x = .int i ∧ QO (some i) H1) : tPart te σ H QO := h
theorem s_exI {a : Int} {P : Int → Prop} (h : P a) : ∃ i, V.int a = V.int i ∧ P i := ⟨a, rfl, h⟩
theorem s_slS {z : Str} {lo hi : Option Int} (c : z.length ≤ sizeLine) (h : Q (.str (cutS z lo hi)) H) : uSl K (.str z) lo hi H Q := ⟨c, h⟩
theorem s_isN (h : Q (.bl (decide (x = .non))) H) : (fun (x y : V) (H : Hp) (Q : VK) => y = .non ∧ Q (.bl (decide (x = .non))) H) x .non H Q := ⟨rfl, h⟩
end
end Uv

set_option Elab.async false
set_option linter.all false
set_option maxRecDepth 100000
set_option maxHeartbeats 4000000
namespace Uv
open PySem PySem.Spec L2
open PyProof.Rows hiding St
/-! ### a joint: the rest of a suite is read once -/
def tSeqJ (t u : TS) : TS := fun D σ H => t { D with nx := u D } σ H
section
variable {X : Cx} {st : Stmt} {rest : List Stmt} {t u : TS}
theorem pss_consJ (h1 : PS X st t) (h2 : PSs X rest u) : PSs X (st :: rest) (tSeqJ t u) := pss_cons h1 h2
end
section
variable {D : Ends} {σ : L2.St} {H : Hp}
theorem s_seqJ {s1 s2 : TS} (M : L2.St → Hp → Prop) (h1 : ∀ σ H, M σ H → s2 D σ H) (h2 : ∀ R : L2.St → Hp → Prop, (∀ σ H, M σ H → R σ H) → s1 { D with nx := R } σ H) : tSeqJ s1 s2 D σ H := h2 _ h1
theorem s_J {s1 s2 : TS} (h : tSeqJ s1 s2 D σ H) : tSeqJ s1 s2 D σ H := h
/-! ### for -/
def LoopR (J : It) (g : TG) (tb : TS) : TS := fun D σ H => ∃ W : Nat → Nat → L2.St → Hp → Prop, (∃ m, W 0 m σ H) ∧ ∀ i m σ H, W i m σ H →
  (J.stop i H ∧ D.nx σ H) ∨ (J.go i H ∧ ∃ N : L2.St → Hp → Prop, (∀ σ' H', N σ' H' → ∃ m', m' < m ∧ W (i + 1) m' σ' H') ∧ ∀ x H', J.yld i H x H' → g x σ H' fun σ2 H2 => tb { D with nx := N, ct := N, bk := D.nx } σ2 H2)
theorem s_for {wi : TI} {g : TG} {tb : TS} (h : wi σ H fun J H1 => LoopR J g tb D σ H1) : tFor wi g tb D σ H := h
theorem loop_n {J : It} {g : TG} {tb : TS} (n : Nat) (I : Nat → L2.St → Hp → Prop) (h0 : I 0 σ H) (hs : ∀ σ H, I n σ H → J.stop n H) (hg : ∀ i σ H, I i σ H → i < n → J.go i H) (hx : ∀ σ H, I n σ H → D.nx σ H)
    (hb : ∀ i x σ H H', i < n → I i σ H → J.yld i H x H' → g x σ H' fun σ2 H2 => tb { D with nx := I (i + 1), ct := I (i + 1), bk := D.nx } σ2 H2) : LoopR J g tb D σ H := by
  refine ⟨fun i m σ H => i + m = n ∧ I i σ H, ⟨n, by omega, h0⟩, fun i m σ H ⟨e, h⟩ => ?_⟩
  by_cases z : i < n
  · exact .inr ⟨hg i σ H h z, I (i + 1), fun σ' H' h' => ⟨m - 1, by omega, by omega, h'⟩, fun x H' y => hb i x σ H H' z h y⟩
  · have : i = n := by omega
    subst this
    exact .inl ⟨hs σ H h, hx σ H h⟩
theorem loopL {K : PySem.W.Frag} {p : Addr} {xs : List V} {g : TG} {tb : TS} (I : Nat → L2.St → Hp → Prop) (h0 : I 0 σ H) (keep : ∀ i σ H, I i σ H → SqL K H p xs) (hx : ∀ σ H, I xs.length σ H → D.nx σ H)
    (hb : ∀ i x σ H, xs[i]? = some x → I i σ H → g x σ H fun σ2 H2 => tb { D with nx := I (i + 1), ct := I (i + 1), bk := D.nx } σ2 H2) : ∃ a, V.ref p = V.ref a ∧ (∃ xs, SqL K H a xs) ∧ LoopR (Itl K a) g tb D σ H := by
  refine ⟨p, rfl, ⟨xs, keep 0 σ H h0⟩, loop_n xs.length I h0 (fun σ H h => ⟨xs, keep _ σ H h, Nat.le_refl _⟩) (fun i σ H h z => ⟨xs, _, keep _ σ H h, List.getElem?_eq_getElem z⟩) hx fun i x σ H H' z h y => ?_⟩
  obtain ⟨rfl, y⟩ := y
  exact hb i x σ _ (y xs (keep _ σ _ h)) h
theorem loopT {K : PySem.W.Frag} {p : Addr} {xs : List V} {g : TG} {tb : TS} (I : Nat → L2.St → Hp → Prop) (h0 : I 0 σ H) (keep : ∀ i σ H, I i σ H → SqT K H p xs) (hx : ∀ σ H, I xs.length σ H → D.nx σ H)
    (hb : ∀ i x σ H, xs[i]? = some x → I i σ H → g x σ H fun σ2 H2 => tb { D with nx := I (i + 1), ct := I (i + 1), bk := D.nx } σ2 H2) : ∃ a, V.ref p = V.ref a ∧ (∃ xs, SqT K H a xs) ∧ LoopR (Itt K a) g tb D σ H := by
  refine ⟨p, rfl, ⟨xs, keep 0 σ H h0⟩, loop_n xs.length I h0 (fun σ H h => ⟨xs, keep _ σ H h, Nat.le_refl _⟩) (fun i σ H h z => ⟨xs, _, keep _ σ H h, List.getElem?_eq_getElem z⟩) hx fun i x σ H H' z h y => ?_⟩
  obtain ⟨rfl, y⟩ := y
  exact hb i x σ _ (y xs (keep _ σ _ h)) h
theorem loopS {z : Str} {g : TG} {tb : TS} (I : Nat → L2.St → Hp → Prop) (h0 : I 0 σ H) (hx : ∀ σ H, I z.length σ H → D.nx σ H)
    (hb : ∀ i c σ H, z.cps[i]? = some c → I i σ H → g (.str ⟨#[c]⟩) σ H fun σ2 H2 => tb { D with nx := I (i + 1), ct := I (i + 1), bk := D.nx } σ2 H2) : ∃ x, V.str z = V.str x ∧ LoopR (Its x) g tb D σ H := by
  refine ⟨z, rfl, loop_n z.cps.size I h0 (fun σ H h => Nat.le_refl _) (fun i σ H h q => q) hx fun i x σ H H' q h y => ?_⟩
  obtain ⟨rfl, c, e, rfl⟩ := y
  exact hb i c σ _ e h
theorem loopR {lo : Int} {n : Nat} {g : TG} {tb : TS} (I : Nat → L2.St → Hp → Prop) (h0 : I 0 σ H) (hx : ∀ σ H, I n σ H → D.nx σ H)
    (hb : ∀ i σ H, i < n → I i σ H → g (.int (lo + i)) σ H fun σ2 H2 => tb { D with nx := I (i + 1), ct := I (i + 1), bk := D.nx } σ2 H2) : LoopR (Itr lo n) g tb D σ H := by
  refine loop_n n I h0 (fun σ H h => Nat.le_refl _) (fun i σ H h q => q) hx fun i x σ H H' q h y => ?_
  obtain ⟨rfl, rfl⟩ := y
  exact hb i σ _ q h
theorem s_rng1 {g : TG} {tb : TS} {j : Int} (c : 0 ≤ j ∧ j < 2 ^ 62) (h : LoopR (Itr 0 j.toNat) g tb D σ H) : ∃ j' : Int, [V.int j] = [V.int j'] ∧ -(2 ^ 62) ≤ j' ∧ j' < 2 ^ 62 ∧ LoopR (Itr 0 j'.toNat) g tb D σ H := ⟨j, rfl, by omega, c.2, h⟩
/-! ### [.. for .. in ..] -/
def LcR (J : It) (g : TG) (tt : TT) (te : TE) (vs : List Nat) (Q : VK) : L2.St → Hp → Prop := fun σ H1 => ∀ D, H1 D = none → ∃ W : Nat → Nat → Hp → Prop, (∃ m, W 0 m (upd H1 D (.lst []))) ∧ ∀ i m H, W i m H →
  (J.stop i H ∧ Q (.ref D) H) ∨ (J.go i H ∧ ∃ Nx : Hp → Prop, (∀ H', Nx H' → ∃ m', m' < m ∧ W (i + 1) m' H') ∧ ∀ x H', J.yld i H x H' → g x (wipe σ vs) H' fun σ2 H2 => wipe σ2 vs = wipe σ vs ∧ tt σ2 H2 fun b H3 =>
    if b = true then te σ2 H3 fun y H4 => ∃ acc, H4 D = some (.lst acc) ∧ acc.length < sizeLine ∧ Nx (upd H4 D (.lst (acc ++ [y]))) else Nx H3)
theorem s_lc {wi : TI} {g : TG} {tt : TT} {te : TE} {vs : List Nat} {Q : VK} (h : wi σ H fun J H1 => LcR J g tt te vs Q σ H1) : tLc wi g tt te vs σ H Q := h
theorem ex_put {H1 H5 : Hp} {D : Addr} {o : HO} (n : H1 D = none) (e : Ex H1 H5) : Ex H1 (upd H5 D o) := fun a q z => by
  rw [upd_ne (fun y => by rw [y, n] at z; cases z)]
  exact e a q z
theorem lc_n {J : It} {g : TG} {tt : TT} {te : TE} {vs : List Nat} {Q : VK} (n : Nat) (I : Addr → Nat → List V → Hp → Prop) (h0 : ∀ D, H D = none → I D 0 [] (upd H D (.lst [])))
    (hs : ∀ D acc H, I D n acc H → J.stop n H) (hg : ∀ D i acc H, I D i acc H → i < n → J.go i H) (hx : ∀ D acc H', H D = none → I D n acc H' → Q (.ref D) H')
    (hb : ∀ D i x acc H2 H', H D = none → i < n → I D i acc H2 → J.yld i H2 x H' → g x (wipe σ vs) H' fun σ2 H3 => wipe σ2 vs = wipe σ vs ∧ tt σ2 H3 fun b H4 => if b = true then te σ2 H4 fun y H5 => ∃ acc, H5 D = some (.lst acc) ∧ acc.length < sizeLine ∧ ∃ acc', I D (i + 1) acc' (upd H5 D (.lst (acc ++ [y]))) else ∃ acc, I D (i + 1) acc H4) : LcR J g tt te vs Q σ H := by
  intro D hD
  refine ⟨fun i m H => i + m = n ∧ ∃ acc, I D i acc H, ⟨n, by omega, [], h0 D hD⟩, fun i m H' ⟨e, acc, h⟩ => ?_⟩
  by_cases z : i < n
  · exact .inr ⟨hg D i acc H' h z, fun H' => ∃ acc, I D (i + 1) acc H', fun H2 h' => ⟨m - 1, by omega, by omega, h'⟩, fun x H2 y => hb D i x acc H' H2 hD z h y⟩
  · have : i = n := by omega
    subst this
    exact .inl ⟨hs D acc H' h, hx D acc H' hD h⟩
/-- over a list, all of it kept -/
theorem lcL {K : PySem.W.Frag} {p : Addr} {xs : List V} {g : TG} {tt : TT} {te : TE} {vs : List Nat} {Q : VK} (hp : SqL K H p xs) (I : Addr → Nat → List V → Hp → Prop) (h0 : ∀ D, H D = none → I D 0 [] (upd H D (.lst [])))
    (he : ∀ D i acc H', I D i acc H' → Ex H H') (hx : ∀ D acc H', H D = none → I D xs.length acc H' → Q (.ref D) H')
    (hb : ∀ D i x acc H', H D = none → xs[i]? = some x → I D i acc H' → g x (wipe σ vs) H' fun σ2 H3 => wipe σ2 vs = wipe σ vs ∧ tt σ2 H3 fun b H4 => if b = true then te σ2 H4 fun y H5 => ∃ acc, H5 D = some (.lst acc) ∧ acc.length < sizeLine ∧ ∃ acc', I D (i + 1) acc' (upd H5 D (.lst (acc ++ [y]))) else ∃ acc, I D (i + 1) acc H4) : ∃ a, V.ref p = V.ref a ∧ (∃ xs, SqL K H a xs) ∧ LcR (Itl K a) g tt te vs Q σ H := by
  refine ⟨p, rfl, ⟨xs, hp⟩, lc_n xs.length I h0 (fun D acc H' h => ⟨xs, Evl.ex_l (he _ _ _ _ h) hp, Nat.le_refl _⟩) (fun D i acc H' h z => ⟨xs, _, Evl.ex_l (he _ _ _ _ h) hp, List.getElem?_eq_getElem z⟩) hx fun D i x acc H2 H' n z h y => ?_⟩
  obtain ⟨rfl, y⟩ := y
  exact hb D i x acc _ n (y xs (Evl.ex_l (he _ _ _ _ h) hp)) h
/-- over a range -/
theorem lcRng {lo : Int} {n : Nat} {g : TG} {tt : TT} {te : TE} {vs : List Nat} {Q : VK} (I : Addr → Nat → List V → Hp → Prop) (h0 : ∀ D, H D = none → I D 0 [] (upd H D (.lst []))) (hx : ∀ D acc H', H D = none → I D n acc H' → Q (.ref D) H')
    (hb : ∀ D i acc H', H D = none → i < n → I D i acc H' → g (.int (lo + i)) (wipe σ vs) H' fun σ2 H3 => wipe σ2 vs = wipe σ vs ∧ tt σ2 H3 fun b H4 => if b = true then te σ2 H4 fun y H5 => ∃ acc, H5 D = some (.lst acc) ∧ acc.length < sizeLine ∧ ∃ acc', I D (i + 1) acc' (upd H5 D (.lst (acc ++ [y]))) else ∃ acc, I D (i + 1) acc H4) : LcR (Itr lo n) g tt te vs Q σ H := by
  refine lc_n n I h0 (fun D acc H' h => Nat.le_refl _) (fun D i acc H' h z => z) hx fun D i x acc H2 H' nD z h y => ?_
  obtain ⟨rfl, rfl⟩ := y
  exact hb D i acc _ nD z h
theorem s_lcPut {Hd H5 : Hp} {d : Addr} {acc : List V} {y : V} {I : Addr → Nat → List V → Hp → Prop} {i : Nat} (h : H5 d = some (.lst acc)) (l : acc.length < sizeLine) (n : Hd d = none) (e : Ex Hd H5) (q : ∀ H6, Ex Hd H6 → (∀ a o, a ≠ d → H5 a = some o → H6 a = some o) → H6 d = some (.lst (acc ++ [y])) → I d i (acc ++ [y]) H6) :
    ∃ acc, H5 d = some (.lst acc) ∧ acc.length < sizeLine ∧ ∃ acc', I d i acc' (upd H5 d (.lst (acc ++ [y]))) := ⟨acc, h, l, _, q _ (ex_put n e) (fun a o z w => by rw [upd_ne z]; exact w) upd_same⟩
theorem s_if1 {P : Prop} {x : Bool} (h : x = true → P) (h2 : x = false → P) : P := by cases x <;> simp_all
theorem Ex.sl {K : PySem.W.Frag} {H H' : Hp} {p : Addr} {xs : List V} (h : SqL K H p xs) (e : Ex H H') : SqL K H' p xs := Evl.ex_l e h
theorem Ex.st {K : PySem.W.Frag} {H H' : Hp} {p : Addr} {xs : List V} (h : SqT K H p xs) (e : Ex H H') : SqT K H' p xs := Evl.ex_t e h
/-! ### while -/
theorem s_turn {tb : TS} {m : Nat} {W : Nat → L2.St → Hp → Prop} (h : tb { D with nx := fun σ' H' => ∃ m', m' < m ∧ W m' σ' H', ct := fun σ' H' => ∃ m', m' < m ∧ W m' σ' H', bk := D.nx } σ H) : ∃ N : L2.St → Hp → Prop, (∀ σ' H', N σ' H' → ∃ m', m' < m ∧ W m' σ' H') ∧ tb { D with nx := N, ct := N, bk := D.nx } σ H := ⟨_, fun _ _ h => h, h⟩
end
end Uv

set_option Elab.async false
set_option linter.all false
set_option maxRecDepth 100000
set_option maxHeartbeats 4000000
namespace Uv
open PySem PySem.Spec L2
open PyProof.Rows hiding St
/-! methods of a text with one text -/
def uM1 (C : Str → Str → Prop) (g : Str → Str → V) : V → List V → Hp → VK → Prop := fun x xs H Q => match x, xs with
  | .str a, [.str b] => C a b ∧ Q (g a b) H
  | _, _ => False
def uPart : V → List V → Hp → VK → Prop := fun x xs H Q => match x, xs with
  | .str a, [.str b] => (b.length == 0) = false ∧ a.length ≤ sizeLine ∧ ∀ p, H p = none → Q (.ref p) (upd H p (.tup [.str (Txt.partition a b).1, .str (Txt.partition a b).2.1, .str (Txt.partition a b).2.2]))
  | _, _ => False
def uSplit : V → List V → Hp → VK → Prop := fun x xs H Q => match x, xs with
  | .str a, [.str b] => (b.length == 0) = false ∧ a.length + 2 ≤ sizeLine ∧ ∀ p, H p = none → Q (.ref p) (upd H p (.lst ((Txt.split a b).map V.str)))
  | _, _ => False
def uIsB (neg : Bool) : R2 := fun x y H Q => match x, y with
  | .bl a, .bl b => Q (.bl (neg.xor (decide (a = b)))) H
  | _, _ => False
def uIsN : R2 := fun x y H Q => y = .non ∧ Q (.bl (decide (x = .non))) H
def uNotN : R2 := fun x y H Q => y = .non ∧ Q (.bl (!decide (x = .non))) H
def tJd (ts : List TE) : TE := fun σ H Q => tJs ts Str.empty σ H fun out H1 => Q (.str out) H1
def uList (K : PySem.W.Frag) : List V → Hp → VK → Prop := fun xs H Q => match xs with
  | [.ref p] => ∃ ys, (SqL K H p ys ∨ SqT K H p ys) ∧ ∀ l, H l = none → Q (.ref l) (upd H l (.lst ys))
  | _ => False
section
variable {X : Cx}
theorem mt_uSw : MtR X "str.startswith" (uM1 (fun _ _ => True) fun a b => .bl (Txt.startswith a b)) := by
  intro pins s σ H x xs v us Q I rx rs h
  match x, xs, h with
  | .str a, [.str b], h => exact mt_startswith pins s σ H _ _ v us Q I rx rs ⟨a, b, rfl, rfl, h.2⟩
theorem mt_uEw : MtR X "str.endswith" (uM1 (fun _ _ => True) fun a b => .bl (Txt.endswith a b)) := by
  intro pins s σ H x xs v us Q I rx rs h
  match x, xs, h with
  | .str a, [.str b], h => exact mt_endswith pins s σ H _ _ v us Q I rx rs ⟨a, b, rfl, rfl, h.2⟩
theorem mt_uFind : MtR X "str.find" (uM1 (fun _ _ => True) fun a b => .int (Txt.find a b)) := by
  intro pins s σ H x xs v us Q I rx rs h
  match x, xs, h with
  | .str a, [.str b], h => exact mt_find pins s σ H _ _ v us Q I rx rs ⟨a, b, rfl, rfl, h.2⟩
theorem mt_uCount : MtR X "str.count" (uM1 (fun _ _ => True) fun a b => .int (Txt.count a b)) := by
  intro pins s σ H x xs v us Q I rx rs h
  match x, xs, h with
  | .str a, [.str b], h => exact mt_count pins s σ H _ _ v us Q I rx rs ⟨a, b, rfl, rfl, h.2⟩
theorem mt_uPart : MtR X "str.partition" uPart := by
  intro pins s σ H x xs v us Q I rx rs h
  match x, xs, h with
  | .str a, [.str b], h => exact mt_partition pins s σ H _ _ v us Q I rx rs ⟨a, b, rfl, rfl, h⟩
theorem mt_uSplit : MtR X "str.split" uSplit := by
  intro pins s σ H x xs v us Q I rx rs h
  match x, xs, h with
  | .str a, [.str b], h => exact mt_split pins s σ H _ _ v us Q I rx rs ⟨a, b, rfl, rfl, h⟩
theorem op_uIsB : OpR X (compareOp .Is) (uIsB false) := by
  intro pins s σ H x y v u Q I rx ry h
  cases x with
  | bl a =>
    cases y with
    | bl b => exact op_is_bl pins s σ H _ _ _ _ Q I rx ry ⟨a, b, rfl, rfl, by simpa [uIsB] using h⟩
    | _ => exact h.elim
  | _ => exact h.elim
theorem op_uNotB : OpR X (compareOp .IsNot) (uIsB true) := by
  intro pins s σ H x y v u Q I rx ry h
  cases x with
  | bl a =>
    cases y with
    | bl b => exact op_isnot_bl pins s σ H _ _ _ _ Q I rx ry ⟨a, b, rfl, rfl, by simpa [uIsB] using h⟩
    | _ => exact h.elim
  | _ => exact h.elim
theorem op_uIsN : OpR X (compareOp .Is) uIsN := op_isN
theorem op_uNotN : OpR X (compareOp .IsNot) uNotN := op_notN
theorem pe_jd {v1 v2 : Expr} {rest : List Expr} {ts : List TE} {pos : Pos} (h : PJ X (v1 :: v2 :: rest) ts) : PE X (.JoinedStr (v1 :: v2 :: rest) pos) (tJd ts) := pe_joined h
theorem call_uList : CallR X (.type "list") (uList X.K) := by
  intro pins s σ H xs us Q I r h
  match xs, h with
  | [.ref p], ⟨ys, h1, h2⟩ => exact call_list_of pins s σ H _ us Q I r ⟨p, ys, rfl, h1, h2⟩
end
section
variable {σ : L2.St} {H : Hp} {Q : VK} {QB : Bool → Hp → Prop} {D : Ends} {ta tb to te td ty tv : TE} {v x y : V} {i : Nat} {K : PySem.W.Frag}
theorem s_m1 {r : V → List V → Hp → VK → Prop} (h : to σ H fun x H1 => (∃ a, x = .str a) ∧ te σ H1 fun y H2 => r x [y] H2 Q) : tM1 r to te σ H Q := h
theorem s_isS {a : Str} {P : Prop} (h : P) : (∃ b, V.str a = V.str b) ∧ P := ⟨⟨a, rfl⟩, h⟩
theorem s_um1 {g : Str → Str → V} {a b : Str} (h : Q (g a b) H) : uM1 (fun _ _ => True) g (.str a) [.str b] H Q := ⟨trivial, h⟩
theorem s_upart {a b : Str} (c : (b.length == 0) = false) (l : a.length ≤ sizeLine) (h : ∀ p, H p = none → Q (.ref p) (upd H p (.tup [.str (Txt.partition a b).1, .str (Txt.partition a b).2.1, .str (Txt.partition a b).2.2]))) : uPart (.str a) [.str b] H Q := ⟨c, l, h⟩
theorem s_usplit {a b : Str} (c : (b.length == 0) = false) (l : a.length + 2 ≤ sizeLine) (h : ∀ p, H p = none → Q (.ref p) (upd H p (.lst ((Txt.split a b).map V.str)))) : uSplit (.str a) [.str b] H Q := ⟨c, l, h⟩
theorem s_isB {neg a b : Bool} (h : Q (.bl (neg.xor (decide (a = b)))) H) : uIsB neg (.bl a) (.bl b) H Q := h
theorem s_isn (h : Q (.bl (decide (x = .non))) H) : uIsN x .non H Q := ⟨rfl, h⟩
theorem s_notn (h : Q (.bl (!decide (x = .non))) H) : uNotN x .non H Q := ⟨rfl, h⟩
theorem s_jd {ts : List TE} (h : tJs ts Str.empty σ H fun out H1 => Q (.str out) H1) : tJd ts σ H Q := h
theorem s_jn {acc : Str} {QS : Str → Hp → Prop} (h : QS acc H) : tJs [] acc σ H QS := h
theorem s_jc {t : TE} {ts : List TE} {acc : Str} {QS : Str → Hp → Prop} (h : t σ H fun x H1 => ∃ y : Str, x = .str y ∧ (acc ++ y).length ≤ sizeLine ∧ tJs ts (acc ++ y) σ H1 QS) : tJs (t :: ts) acc σ H QS := h
theorem s_fmt (h : te σ H fun x H1 => (∃ y : Str, x = .str y ∧ y.length ≤ sizeLine ∧ Q (.str y) H1) ∨ ∃ i : Int, x = .int i ∧ i.natAbs.log2 < 1920 ∧ Q (.str (toString i)) H1) : tFmt te σ H Q := h
theorem s_itl {R : It → Hp → Prop} (h : te σ H fun x H1 => ∃ a, x = .ref a ∧ (∃ xs, SqL K H1 a xs) ∧ R (Itl K a) H1) : iList K te σ H R := h
theorem s_itt {R : It → Hp → Prop} (h : te σ H fun x H1 => ∃ a, x = .ref a ∧ (∃ xs, SqT K H1 a xs) ∧ R (Itt K a) H1) : iTup K te σ H R := h
theorem s_its {R : It → Hp → Prop} (h : te σ H fun v H1 => ∃ x, v = .str x ∧ R (Its x) H1) : iStr te σ H R := h
theorem s_itr {R : It → Hp → Prop} {ts : TA} (h : ts σ H fun vs H1 => ∃ j : Int, vs = [.int j] ∧ -(2 ^ 62) ≤ j ∧ j < 2 ^ 62 ∧ R (Itr 0 j.toNat) H1) : iRng1 ts σ H R := h
theorem s_itr2 {R : It → Hp → Prop} {ts : TA} (h : ts σ H fun vs H1 => ∃ i j : Int, vs = [.int i, .int j] ∧ (-(2 ^ 62) ≤ i ∧ i < 2 ^ 62 ∧ -(2 ^ 62) ≤ j ∧ j < 2 ^ 62) ∧ R (Itr i (j - i).toNat) H1) : iRng2 ts σ H R := h
theorem s_disp {trs : List (TE × TE)} (h : ∀ p, H p = none → tPairs trs σ (upd H p (.dK [])) fun ps H2 => H2 p = some (.dK []) ∧ ∃ kvs : List (Key × V), ps = kvs.map (fun kv => (kV kv.1, kv.2)) ∧ kvs.length ≤ 15 ∧ Q (.ref p) (upd H2 p (.dK (mergeK [] kvs)))) : tDisp trs σ H Q := h
theorem s_prn {QP : List (V × V) → Hp → Prop} (h : QP [] H) : tPairs [] σ H QP := h
theorem s_prc {tk tv : TE} {r : List (TE × TE)} {QP : List (V × V) → Hp → Prop} (h : tk σ H fun x H1 => tv σ H1 fun y H2 => tPairs r σ H2 fun ps H3 => QP ((x, y) :: ps) H3) : tPairs ((tk, tv) :: r) σ H QP := h
theorem s_gt {p : Addr} {xs : List V} {n : Nat} {t : TGs} {R : L2.St → Hp → Prop} (hs : SqT K H p xs) (hl : xs.length = n) (h : t xs σ H R) : gTup K n t (.ref p) σ H R := ⟨p, xs, rfl, hs, hl, h⟩
theorem s_gc {t : TG} {u : TGs} {r : List V} {R : L2.St → Hp → Prop} (h : t v σ H fun σ' H' => u r σ' H' R) : gCons t u (v :: r) σ H R := ⟨v, r, rfl, h⟩
theorem s_gnil {R : L2.St → Hp → Prop} (h : R σ H) : gNil [] σ H R := ⟨rfl, h⟩
theorem s_yes (h : QB true H) : tYes σ H QB := h
theorem s_listL {p : Addr} {ys : List V} (hs : SqL K H p ys) (h : ∀ l, H l = none → Q (.ref l) (upd H l (.lst ys))) : uList K [.ref p] H Q := ⟨ys, .inl hs, h⟩
theorem s_listT {p : Addr} {ys : List V} (hs : SqT K H p ys) (h : ∀ l, H l = none → Q (.ref l) (upd H l (.lst ys))) : uList K [.ref p] H Q := ⟨ys, .inr hs, h⟩
theorem s_inT {p : Addr} {xs : List V} (h : SqT K H p xs) (fx : flatV x = true) (fs : xs.all flatV = true) (q : Q (.bl (inV x xs)) H) : rIn K false x (.ref p) H Q := ⟨p, xs, rfl, .inr h, fx, fs, q⟩
theorem s_inL {p : Addr} {xs : List V} (h : SqL K H p xs) (fx : flatV x = true) (fs : xs.all flatV = true) (q : Q (.bl (inV x xs)) H) : rIn K false x (.ref p) H Q := ⟨p, xs, rfl, .inl h, fx, fs, q⟩
/-- the field of the exception that the suite's name holds -/
theorem s_xfV {a C dd : Addr} {f : Str} {fs : List (Str × V)} (hv : σ[i]? = some (some (.ref a))) (e : H dd = some (.xd fs)) (el : fs.lookup f = some v) (q : Q v H) : tXf a (.ref C) (some dd) C f (tVar i) σ H Q := ⟨_, hv, rfl, rfl, dd, fs, v, rfl, e, el, q⟩
theorem s_raise {C : Addr} {fs : List Str} {W : WX} {ts : TA} (h : ts σ H fun vs H1 => vs.length = fs.length ∧ ∀ d, H1 d = none → W (.ref C) (some d) σ (upd H1 d (.xd (fs.zip vs).reverse))) : tRaiseX C fs W ts D σ H := h
theorem s_isXr {a dC dd C : Addr} {fs : List (Str × V)} {b : Bool} (e : H dd = some (.xd fs)) (ec : ExcC K dC) (hk : PySem.W.kitOne K (.ref dC) (.ref C) = some b) (q : Q (.bl b) H) : rIsX K a (.ref dC) (some dd) [.ref a, .ref C] H Q := ⟨dC, dd, fs, rfl, rfl, e, ec, .inl ⟨_, _, b, rfl, .own C, hk, q⟩⟩
theorem s_isXt {a dC dd : Addr} {n : String} {fs : List (Str × V)} {b : Bool} (e : H dd = some (.xd fs)) (ec : ExcC K dC) (hk : PySem.W.kitOne K (.ref dC) (.type n) = some b) (q : Q (.bl b) H) : rIsX K a (.ref dC) (some dd) [.ref a, .ty n] H Q := ⟨dC, dd, fs, rfl, rfl, e, ec, .inl ⟨_, _, b, rfl, .ty n, hk, q⟩⟩
/-- the clause whose class it is -/
theorem s_hit {X1 : WX} {cl : Cl} {r : List Cl} {cls : Value} {d : Option Addr} (hb : PySem.W.exmOne K cls cl.c = some true) (h : ∀ a, H a = none → cl.ts a cls d (endO D cl.i) (setO σ cl.i (some (.ref a))) H) : wCl K X1 D (cl :: r) cls d σ H := ⟨true, hb, fun _ => h, fun z => by cases z⟩
theorem s_miss {X1 : WX} {cl : Cl} {r : List Cl} {cls : Value} {d : Option Addr} (hb : PySem.W.exmOne K cls cl.c = some false) (h : wCl K X1 D r cls d σ H) : wCl K X1 D (cl :: r) cls d σ H := ⟨false, hb, (fun z => by cases z), fun _ => h⟩
end
end Uv

set_option Elab.async false
set_option linter.all false
set_option maxRecDepth 100000
set_option maxHeartbeats 4000000
namespace Uv
open PySem PySem.Spec L2
open PyProof.Rows hiding St
/-! ### terms that lay plain data -/
def DE (K : PySem.W.Frag) (σ : L2.St) (H0 : Hp) (te : TE) (d : PyData) : Prop := ∀ (H : Hp) (Q : VK), Ex H0 H → (∀ v H', Ex H H' → Dp K H' v d → Q v H') → te σ H Q
def DA (K : PySem.W.Frag) (σ : L2.St) (H0 : Hp) (ts : TA) (ds : List PyData) : Prop := ∀ (H : Hp) (Q : List V → Hp → Prop), Ex H0 H → (∀ vs H', Ex H H' → DpAll K H' vs ds → Q vs H') → ts σ H Q
section
variable {K : PySem.W.Frag} {σ : L2.St} {H0 H : Hp} {te : TE} {ts : TA} {d : PyData} {ds : List PyData} {Q : VK}
theorem de_non : DE K σ H0 (tC .non) .none := fun H Q _ h => h _ _ (exR H) .non
theorem de_bl (b : Bool) : DE K σ H0 (tC (.bl b)) (.bool b) := fun H Q _ h => h _ _ (exR H) (.bl b)
theorem de_int (i : Int) : DE K σ H0 (tC (.int i)) (.int i) := fun H Q _ h => h _ _ (exR H) (.int i)
theorem de_str (z : Str) : DE K σ H0 (tC (.str z)) (.str z) := fun H Q _ h => h _ _ (exR H) (.str z)
theorem de_neg (i : Int) : DE K σ H0 (tUn (rU fun i => .int (-i)) (tC (.int i))) (.int (-i)) := fun H Q _ h => ⟨i, rfl, h _ _ (exR H) (.int (-i))⟩
theorem da_nil : DA K σ H0 tNil [] := fun H Q _ h => h _ _ (exR H) .nil
theorem da_cons (h1 : DE K σ H0 te d) (h2 : DA K σ H0 ts ds) : DA K σ H0 (tCons te ts) (d :: ds) := fun H Q e h =>
  h1 H _ e fun v H1 e1 dv => h2 H1 _ (e.tr e1) fun vs H2 e2 dvs => h _ _ (e1.tr e2) (.cons (dp_ex e2 d v dv) dvs)
theorem dpa_length : ∀ {xs : List V} {ds : List PyData}, DpAll K H xs ds → xs.length = ds.length
  | _, _, .nil => rfl
  | _, _, .cons _ r => congrArg (· + 1) (dpa_length r)
theorem de_tup (h1 : DA K σ H0 ts ds) (l : ds.length ≤ 1000) : DE K σ H0 (tTup ts) (.tuple ds) := fun H Q e h =>
  h1 H _ e fun vs H1 e1 dvs => ⟨by rw [dpa_length dvs]; exact Nat.le_trans l (by decide), fun p n => h _ _ (e1.tr (exN n)) (.tup (.of upd_same) (dpa_ex (exN n) ds vs dvs))⟩
theorem de_lst (h1 : DA K σ H0 ts ds) (l : ds.length ≤ 1000) : DE K σ H0 (tLst ts) (.list ds) := fun H Q e h =>
  h1 H _ e fun vs H1 e1 dvs => ⟨by rw [dpa_length dvs]; exact Nat.le_trans l (by decide), fun p n => h _ _ (e1.tr (exN n)) (.lst (.of upd_same) (dpa_ex (exN n) ds vs dvs))⟩
/-- a list of data laid -/
theorem s_dlst (h1 : DA K σ H ts ds) (l : ds.length ≤ 1000) (q : ∀ p vs H', Ex H H' → H' p = some (.lst vs) → DpAll K H' vs ds → Q (.ref p) H') : tLst ts σ H Q :=
  h1 H _ (exR H) fun vs H1 e1 dvs => ⟨by rw [dpa_length dvs]; exact Nat.le_trans l (by decide), fun p n => q p vs _ (e1.tr (exN n)) upd_same (dpa_ex (exN n) ds vs dvs)⟩
theorem s_data (h1 : DE K σ H te d) (q : ∀ v H', Ex H H' → Dp K H' v d → Q v H') : te σ H Q := h1 H _ (exR H) q
/-- the same, found by the shape of the term -/
class DEc (K : PySem.W.Frag) (σ : L2.St) (H0 : Hp) (te : TE) (d : outParam PyData) : Prop where
  h : DE K σ H0 te d
class DAc (K : PySem.W.Frag) (σ : L2.St) (H0 : Hp) (n : Nat) (ts : TA) (ds : outParam (List PyData)) : Prop where
  h : DA K σ H0 ts ds
  l : ds.length ≤ n
instance : DEc K σ H0 (tC .non) .none := ⟨de_non⟩
instance (b : Bool) : DEc K σ H0 (tC (.bl b)) (.bool b) := ⟨de_bl b⟩
instance (i : Int) : DEc K σ H0 (tC (.int i)) (.int i) := ⟨de_int i⟩
instance (z : Str) : DEc K σ H0 (tC (.str z)) (.str z) := ⟨de_str z⟩
instance (i : Int) : DEc K σ H0 (tUn (rU fun i => .int (-i)) (tC (.int i))) (.int (-i)) := ⟨de_neg i⟩
instance {n : Nat} : DAc K σ H0 n tNil [] := ⟨da_nil, Nat.zero_le _⟩
instance {n : Nat} {te d ts ds} [h1 : DEc K σ H0 te d] [h2 : DAc K σ H0 n ts ds] : DAc K σ H0 (n + 1) (tCons te ts) (d :: ds) := ⟨da_cons h1.h h2.h, Nat.succ_le_succ h2.l⟩
instance {ts ds} [h : DAc K σ H0 100 ts ds] : DEc K σ H0 (tTup ts) (.tuple ds) := ⟨de_tup h.h (Nat.le_trans h.l (by decide))⟩
instance {ts ds} [h : DAc K σ H0 100 ts ds] : DEc K σ H0 (tLst ts) (.list ds) := ⟨de_lst h.h (Nat.le_trans h.l (by decide))⟩
theorem s_dl [h : DAc K σ H 100 ts ds] (q : ∀ p vs H', Ex H H' → H' p = some (.lst vs) → DpAll K H' vs ds → Q (.ref p) H') : tLst ts σ H Q := s_dlst h.h (Nat.le_trans h.l (by decide)) q
/-- list(x) of a tuple that stands -/
theorem de_listT {i : Nat} {p : Addr} {xs : List V} (hv : σ[i]? = some (some (.ref p))) (hs : SqT K H0 p xs) (hd : DpAll K H0 xs ds) : DEc K σ H0 (tCB (uList K) (tCons (tVar i) tNil)) (.list ds) :=
  ⟨fun H Q e h => ⟨_, hv, xs, .inr (Ex.st hs e), fun l n => h _ _ (exN n) (.lst (.of upd_same) (dpa_ex (Ex.tr e (exN n)) ds xs hd))⟩⟩
theorem dpa_get {xs : List V} {ds : List PyData} {i : Nat} {x : V} (h : DpAll K H xs ds) (e : xs[i]? = some x) : ∃ d, ds[i]? = some d ∧ d ∈ ds ∧ Dp K H x d := by
  induction h using DpAll.rec (motive_1 := fun _ _ _ => True) generalizing i with
  | nil => cases e
  | @cons v vs d ds hd hr _ ih =>
    cases i with
    | zero => cases e; exact ⟨d, rfl, List.mem_cons_self, hd⟩
    | succ i =>
      obtain ⟨d', h1, h2, h3⟩ := ih e
      exact ⟨d', h1, List.mem_cons_of_mem _ h2, h3⟩
  | _ => trivial
theorem dpa_app {xs ys : List V} {ds es : List PyData} (h : DpAll K H xs ds) (g : DpAll K H ys es) : DpAll K H (xs ++ ys) (ds ++ es) := by
  induction h using DpAll.rec (motive_1 := fun _ _ _ => True) with
  | nil => exact g
  | @cons v vs d ds hd hr _ ih => exact .cons hd ih
  | _ => trivial
end
end Uv

set_option Elab.async false
set_option linter.all false
set_option maxRecDepth 100000
set_option maxHeartbeats 4000000
namespace Uv
open PySem PySem.Spec L2
open PyProof.Rows hiding St
/-! ### the same rules with the written part by its name (a comprehension's block) -/
section
variable {X : Cx} {K : PySem.W.Frag}
theorem ix_seqK (e : X.K = K) : IxR X (rIx K) := by subst e; exact ix_seq
theorem op_uAddK (e : X.K = K) : OpR X (binaryOp .Add) (uAdd K) := by subst e; exact op_uAdd
theorem op_uMulK (e : X.K = K) : OpR X (binaryOp .Mult) (uMul K) := by subst e; exact op_uMul
theorem call_uLenK (e : X.K = K) : CallR X (.builtin "len") (uLen K) := by subst e; exact call_uLen
theorem call_uListK (e : X.K = K) : CallR X (.type "list") (uList K) := by subst e; exact call_uList
theorem call_isiK (e : X.K = K) : CallR X (.builtin "isinstance") (rIsi K) := by subst e; exact call_isi
theorem op_in_seqK (e : X.K = K) : OpR X (compareOp .In) (rIn K false) := by subst e; exact op_in_seq
theorem op_notIn_seqK (e : X.K = K) : OpR X (compareOp .NotIn) (rIn K true) := by subst e; exact op_notIn_seq
theorem op_uEqK (e : X.K = K) (hu : X.A.units + 64 < cLine) : OpR X (compareOp .Eq) (uEq K) := by subst e; exact op_uEq hu
theorem op_uNeK (e : X.K = K) (hu : X.A.units + 64 < cLine) : OpR X (compareOp .NotEq) (uNe K) := by subst e; exact op_uNe hu
theorem sl_uK (e : X.K = K) : SlR X (uSl K) := by subst e; exact sl_u
end
end Uv

set_option Elab.async false
set_option linter.all false
set_option maxRecDepth 100000
set_option maxHeartbeats 4000000
/-! zip of a list or a tuple with a list or a tuple (true: a list) -/
namespace Zx
open PySem PySem.Spec L2 RZ
open PyProof.Rows hiding St
/-- the iterator at it stands at i of l -/
def Ii (k : Bool) (h : Heap) (it l : Addr) (i : Nat) : Prop := bif k then h.IsListIter it l i else h.IsTupleIter it l i
def Is (k : Bool) (h : Heap) (l : Addr) (xs : Array Value) : Prop := bif k then h.IsList l xs else h.IsTuple l xs
def Sq (K : PySem.W.Frag) (k : Bool) (H : Hp) (a : Addr) (xs : List V) : Prop := bif k then SqL K H a xs else SqT K H a xs
theorem Ii.ext {k : Bool} {h h' : Heap} {it l b : Addr} {i : Nat} (x : Ii k h it l i) (hs : Heap.ExtBut b h h') (n : it ≠ b) : Ii k h' it l i := by
  cases k
  · exact Heap.IsTupleIter.extBut x hs n
  · exact Heap.IsListIter.extBut x hs n
theorem Ii.at_ {k : Bool} {h h' : Heap} {it l : Addr} {i : Nat} (x : Ii k h it l i) (e : ∀ o, h.get? it = some o → h'.get? it = some o) : Ii k h' it l i := by
  cases k
  · exact Heap.IsTupleIter.at x e
  · exact Heap.IsListIter.at x e
theorem Ii.ob {k : Bool} {h : Heap} {it l : Addr} {i : Nat} (x : Ii k h it l i) : ∃ o, h.get? it = some o ∧ ∀ (v : Option Value), o.data ≠ .cell v := by
  cases k <;> (obtain ⟨o, e, _, d⟩ := x; exact ⟨o, e, fun v q => by rw [d] at q; cases q⟩)
theorem Ii.lt {k : Bool} {h : Heap} {it l : Addr} {i : Nat} (x : Ii k h it l i) : it < h.objs.size := by obtain ⟨o, e, _⟩ := x.ob; exact Heap.lt_size e
theorem Is.ext {k : Bool} {h h' : Heap} {l b : Addr} {xs : Array Value} (x : Is k h l xs) (hs : Heap.ExtBut b h h') (n : l ≠ b) : Is k h' l xs := by
  cases k
  · exact Heap.IsTuple.extBut x hs n
  · exact Heap.IsList.extBut x hs n
theorem Is.lt {k : Bool} {h : Heap} {l : Addr} {xs : Array Value} (x : Is k h l xs) : l < h.objs.size := by
  cases k <;> (obtain ⟨o, e, _⟩ := x; exact Heap.lt_size e)
theorem Sq.is {X : Cx} {pins : List (Addr × Obj)} {σ : L2.St} {H : Hp} {s : Shared} {k : Bool} {a : Addr} {xs : List V} (I : Inv X pins σ H s) (q : Sq X.K k H a xs) : ∃ its, Vals xs its ∧ Is k s.heap a its.toArray := by
  cases k
  · obtain ⟨its, rv, p, _⟩ := I.tuple q; exact ⟨its, rv, p⟩
  · obtain ⟨its, rv, p, _⟩ := I.list q; exact ⟨its, rv, p.isList⟩
theorem Sq.inj {X : Cx} {pins : List (Addr × Obj)} {σ : L2.St} {H : Hp} {s : Shared} {k : Bool} {a : Addr} {xs ys : List V} (I : Inv X pins σ H s) (q : Sq X.K k H a xs) (r : Sq X.K k H a ys) : xs = ys := by
  cases k
  · exact I.tuple_inj q r
  · exact I.list_inj q r
section
variable {prog : Program} {w : World} {A : Around} {E : Value → Shared → Prop} {s : Shared}
theorem nx_item {k : Bool} {it l : Addr} {i : Nat} {items : Array Value} {x : Value} {Q : Value → Shared → Prop} (hit : Ii k s.heap it l i) (hl : Is k s.heap l items) (hx : items[i]? = some x)
    (hQ : ∀ h', Ii k h' it l (i + 1) → Heap.SameBut it s.heap h' → Q x { s with heap := h' }) : wpAny (model prog w) A (Builtin.SmallTypes.nextOf (.ref it)) Q E s := by
  cases k
  · exact nextOf_tuple_item hit hl hx hQ
  · exact wpAny_nextOf_list_item hit hl hx hQ
theorem nx_end {k : Bool} {it l : Addr} {i : Nat} {items : Array Value} {Q : Value → Shared → Prop} (hh : A.handled = none) (hit : Ii k s.heap it l i) (hl : Is k s.heap l items) (hx : items[i]? = none)
    (hE : ∀ h' e, Heap.ExtBut it s.heap h' → (∃ o, h'.get? e = some o ∧ o.cls = .type "StopIteration") → E (.ref e) { s with heap := h' }) : wpAny (model prog w) A (Builtin.SmallTypes.nextOf (.ref it)) Q E s := by
  cases k
  · exact nextOf_tuple_end hh hit hl hx hE
  · exact wpAny_nextOf_list_end hh hit hl hx hE
theorem z_item {j k : Bool} {z TI TO i1 i2 l1 l2 : Addr} {n1 n2 : Nat} {xs ys : Array Value} {x y a b : Value} {Q : Value → Shared → Prop} (D : ZipApart z TI TO i1 i2 l1 l2) (hz : IsZip s.heap z TI TO .none) (hTI : IsPair s.heap TI (.ref i1) (.ref i2)) (hTO : IsPair s.heap TO a b)
    (h1 : Ii j s.heap i1 l1 n1) (h2 : Ii k s.heap i2 l2 n2) (hl1 : Is j s.heap l1 xs) (hl2 : Is k s.heap l2 ys) (hx : xs[n1]? = some x) (hy : ys[n2]? = some y)
    (hQ : ∀ h', IsZip h' z TI TO (rawInt s.heap.objs.size) → IsPair h' TO x y → Ii j h' i1 l1 (n1 + 1) → Ii k h' i2 l2 (n2 + 1) → IsPair h' s.heap.objs.size x y → h'.objs.size = s.heap.objs.size + 1 →
      (∀ c o, c ≠ z → c ≠ TO → c ≠ i1 → c ≠ i2 → s.heap.get? c = some o → h'.get? c = some o) → Q (.ref s.heap.objs.size) { s with heap := h' }) :
    wpAny (model prog w) A (Builtin.«zip.__next__» ⟨[.ref z], []⟩) (fun fin s' => ∃ v, fin = .done (.ret v) ∧ Q v s') E s := by
  show wpAny _ _ (field (.ref z) 2 >>= _) _ _ _; refine wpAny_bind (wpAny_field hz rfl (x := .bool false) rfl ?_); show wpAny _ _ (field (.ref z) 3 >>= _) _ _ _
  refine wpAny_bind (wpAny_field hz rfl (x := .ref TI) rfl ?_); refine wpAny_bind (wpAny_seqItems hTI rfl ?_); show wpAny _ _ (Builtin.SmallTypes.ownedTupleIsFree (.ref z) >>= _) _ _ _
  refine wpAny_bind ?_; unfold Builtin.SmallTypes.ownedTupleIsFree; refine wpAny_bind (wpAny_field hz rfl (x := .none) rfl (wpAny_pure ?_)); simp only [if_true]
  refine wpAny_bind (wpAny_rule ?_); refine wpAny_bind (wpAny_field hz rfl (x := .ref TO) rfl ?_); refine wpAny_bind (wpAny_setField_rec hz (by simp) fun g1 z1 e1 => ?_)
  replace z1 : IsZip g1 z TI TO .ellipsis := z1
  refine wpAny_bind ?_; simp only [List.zipIdx_cons, List.zipIdx_nil, List.forIn_cons, List.forIn_nil]
  refine wpAny_bind (wpAny_bind (wpAny_onRaise ?_)); show wpAny _ _ (Builtin.SmallTypes.nextOf (.ref i1) >>= _) _ _ _
  refine wpAny_bind (nx_item (h1.ext e1.extBut D.i1z) (hl1.ext e1.extBut D.l1z) hx fun g2 a2 e2 => wpAny_pure ?_)
  have t2 : IsPair g2 TO a b := e2.extBut _ _ D.TOi1 (e1.extBut _ _ D.TOz hTO)
  refine wpAny_bind (wpAny_seqItems t2 rfl ?_); refine wpAny_bind (wpAny_updateSeq_pair t2 fun g3 t3 e3 => ?_)
  replace t3 : IsPair g3 TO x b := t3
  refine wpAny_bind (wpAny_letGo (wpAny_pure ?_)); refine wpAny_bind (wpAny_bind (wpAny_onRaise ?_)); show wpAny _ _ (Builtin.SmallTypes.nextOf (.ref i2) >>= _) _ _ _
  refine wpAny_bind (nx_item (((h2.ext e1.extBut D.i2z).ext e2.extBut D.i12.symm).ext e3.extBut D.TOi2.symm) (((hl2.ext e1.extBut D.l2z).ext e2.extBut D.l2i1).ext e3.extBut D.l2TO) hy fun g4 a4 e4 => wpAny_pure ?_)
  have t4 : IsPair g4 TO x b := e4.extBut _ _ D.TOi2 t3
  refine wpAny_bind (wpAny_seqItems t4 rfl ?_); refine wpAny_bind (wpAny_updateSeq_pair t4 fun g5 t5 e5 => ?_)
  replace t5 : IsPair g5 TO x y := t5
  refine wpAny_bind (wpAny_letGo (wpAny_pure (wpAny_pure ?_))); refine wpAny_bind (wpAny_seqItems t5 rfl ?_); refine wpAny_bind (wpAny_newTuple ?_)
  have hsz : g5.objs.size = s.heap.objs.size := by rw [e5.1, e4.1, e3.1, e2.1, e1.1]
  have z5 : IsZip g5 z TI TO .ellipsis := e5.extBut _ _ D.TOz.symm (e4.extBut _ _ D.i2z.symm (e3.extBut _ _ D.TOz.symm (e2.extBut _ _ D.i1z.symm z1)))
  have k5 : ∀ c o, c ≠ z → c ≠ TO → c ≠ i1 → c ≠ i2 → s.heap.get? c = some o → g5.get? c = some o := fun c o c1 c2 c3 c4 e => e5.extBut _ _ c2 (e4.extBut _ _ c4 (e3.extBut _ _ c2 (e2.extBut _ _ c3 (e1.extBut _ _ c1 e))))
  have a5 : Ii j g5 i1 l1 (n1 + 1) := ((a2.ext e3.extBut D.TOi1.symm).ext e4.extBut D.i12).ext e5.extBut D.TOi1.symm
  have b5 : Ii k g5 i2 l2 (n2 + 1) := a4.ext e5.extBut D.TOi2.symm
  have ltz : z < g5.objs.size := Heap.lt_size z5
  show wpAny _ _ (Builtin.SmallTypes.ownedTupleHandOut (.ref z) (.ref g5.objs.size) >>= _) _ _ _
  refine wpAny_bind ?_; unfold Builtin.SmallTypes.ownedTupleHandOut
  have z6 : IsZip (g5.push { cls := .type "tuple", data := .seq #[x, y] }) z TI TO .ellipsis := Heap.get?_push_of_some _ z5
  refine wpAny_bind (wpAny_setField_rec z6 (by simp) fun g7 z7 e7 => ?_)
  replace z7 : IsZip g7 z TI TO (rawInt g5.objs.size) := z7
  refine wpAny_setField_rec z7 (by simp) fun g8 z8 e8 => ?_
  replace z8 : IsZip g8 z TI TO (rawInt g5.objs.size) := z8
  have up : ∀ c o, c ≠ z → g5.get? c = some o → g8.get? c = some o := fun c o c1 e => e8.extBut _ _ c1 (e7.extBut _ _ c1 (Heap.get?_push_of_some _ e))
  have t8 : IsPair g8 g5.objs.size x y := e8.extBut _ _ (Nat.ne_of_gt ltz) (e7.extBut _ _ (Nat.ne_of_gt ltz) (Heap.get?_push_size _ rfl))
  have sz8 : g8.objs.size = g5.objs.size + 1 := by rw [e8.1, e7.1, Heap.size_push]
  rw [hsz] at z8 t8 sz8
  refine wpAny_pure ⟨_, rfl, ?_⟩; show Q (.ref g5.objs.size) _; rw [hsz]
  exact hQ g8 z8 (up _ _ D.TOz t5) (a5.at_ fun o e => up _ o D.i1z e) (b5.at_ fun o e => up _ o D.i2z e) t8 sz8 fun c o c1 c2 c3 c4 e => up c o c1 (k5 c o c1 c2 c3 c4 e)
theorem z_end {j k : Bool} {z TI TO i1 i2 l1 l2 : Addr} {n1 n2 : Nat} {xs ys : Array Value} {a b : Value} {Q : Fin → Shared → Prop} (hh : A.handled = none) (D : ZipApart z TI TO i1 i2 l1 l2) (hz : IsZip s.heap z TI TO .none) (hTI : IsPair s.heap TI (.ref i1) (.ref i2)) (hTO : IsPair s.heap TO a b)
    (h1 : Ii j s.heap i1 l1 n1) (h2 : Ii k s.heap i2 l2 n2) (hl1 : Is j s.heap l1 xs) (hl2 : Is k s.heap l2 ys) (hend : xs[n1]? = none ∨ ys[n2]? = none)
    (hE : ∀ h' e, (∀ c o, c ≠ z → c ≠ TO → c ≠ i1 → c ≠ i2 → s.heap.get? c = some o → h'.get? c = some o) → (∃ o, h'.get? e = some o ∧ o.cls = .type "StopIteration") → E (.ref e) { s with heap := h' }) : wpAny (model prog w) A (Builtin.«zip.__next__» ⟨[.ref z], []⟩) Q E s := by
  show wpAny _ _ (field (.ref z) 2 >>= _) _ _ _; refine wpAny_bind (wpAny_field hz rfl (x := .bool false) rfl ?_); show wpAny _ _ (field (.ref z) 3 >>= _) _ _ _
  refine wpAny_bind (wpAny_field hz rfl (x := .ref TI) rfl ?_); refine wpAny_bind (wpAny_seqItems hTI rfl ?_); show wpAny _ _ (Builtin.SmallTypes.ownedTupleIsFree (.ref z) >>= _) _ _ _
  refine wpAny_bind ?_; unfold Builtin.SmallTypes.ownedTupleIsFree; refine wpAny_bind (wpAny_field hz rfl (x := .none) rfl (wpAny_pure ?_)); simp only [if_true]
  refine wpAny_bind (wpAny_rule ?_); refine wpAny_bind (wpAny_field hz rfl (x := .ref TO) rfl ?_); refine wpAny_bind (wpAny_setField_rec hz (by simp) fun g1 z1 e1 => ?_)
  replace z1 : IsZip g1 z TI TO .ellipsis := z1
  refine wpAny_bind ?_; simp only [List.zipIdx_cons, List.zipIdx_nil, List.forIn_cons, List.forIn_nil]
  refine wpAny_bind (wpAny_bind (wpAny_onRaise ?_)); show wpAny _ _ (Builtin.SmallTypes.nextOf (.ref i1) >>= _) _ _ _
  have fin : ∀ (g : Heap) (e : Addr), IsZip g z TI TO .ellipsis → (∀ c o, c ≠ z → c ≠ TO → c ≠ i1 → c ≠ i2 → s.heap.get? c = some o → g.get? c = some o) → (∃ o, g.get? e = some o ∧ o.cls = .type "StopIteration") →
      ∀ {v : Value} {R : Unit → Shared → Prop}, (∀ g' , (∀ c o, c ≠ z → c ≠ TO → c ≠ i1 → c ≠ i2 → s.heap.get? c = some o → g'.get? c = some o) → (∃ o, g'.get? e = some o ∧ o.cls = .type "StopIteration") → R () { s with heap := g' }) → wpAny (model prog w) A (setField (.ref z) 0 v) R E { s with heap := g } := by
    intro g e zg kg ⟨oe, hoe, hce⟩ v R hR
    have hez : e ≠ z := fun q => by subst q; rw [zg] at hoe; cases hoe; simp at hce
    exact wpAny_setField_rec zg (by simp) fun g3 _ e3 => hR g3 (fun c o c1 c2 c3 c4 q => e3.extBut _ _ c1 (kg c o c1 c2 c3 c4 q)) ⟨oe, e3.extBut _ _ hez hoe, hce⟩
  cases hx : xs[n1]? with
  | none =>
    refine wpAny_bind (nx_end hh (h1.ext e1.extBut D.i1z) (hl1.ext e1.extBut D.l1z) hx fun g2 e e2 he => ?_)
    exact fin g2 e (e2 _ _ D.i1z.symm z1) (fun c o c1 _ c3 _ q => e2 _ _ c3 (e1.extBut _ _ c1 q)) he fun g' kg he' => hE g' e kg he'
  | some x =>
    have hy : ys[n2]? = none := by rcases hend with h | h; rw [hx] at h; cases h; exact h
    refine wpAny_bind (nx_item (h1.ext e1.extBut D.i1z) (hl1.ext e1.extBut D.l1z) hx fun g2 a2 e2 => wpAny_pure ?_)
    have t2 : IsPair g2 TO a b := e2.extBut _ _ D.TOi1 (e1.extBut _ _ D.TOz hTO)
    refine wpAny_bind (wpAny_seqItems t2 rfl ?_); refine wpAny_bind (wpAny_updateSeq_pair t2 fun g3 t3 e3 => ?_)
    refine wpAny_bind (wpAny_letGo (wpAny_pure ?_)); refine wpAny_bind (wpAny_bind (wpAny_onRaise ?_)); show wpAny _ _ (Builtin.SmallTypes.nextOf (.ref i2) >>= _) _ _ _
    refine wpAny_bind (nx_end hh (((h2.ext e1.extBut D.i2z).ext e2.extBut D.i12.symm).ext e3.extBut D.TOi2.symm) (((hl2.ext e1.extBut D.l2z).ext e2.extBut D.l2i1).ext e3.extBut D.l2TO) hy fun g4 e e4 he => ?_)
    exact fin g4 e (e4 _ _ D.i2z.symm (e3.extBut _ _ D.TOz.symm (e2.extBut _ _ D.i1z.symm z1))) (fun c o c1 c2 c3 c4 q => e4 _ _ c4 (e3.extBut _ _ c2 (e2.extBut _ _ c3 (e1.extBut _ _ c1 q)))) he fun g' kg he' => hE g' e kg he'
theorem py_item {j k : Bool} {z TI TO i1 i2 l1 l2 : Addr} {n1 n2 : Nat} {xs ys : Array Value} {x y a b : Value} {Q : Option Value → Shared → Prop} (D : ZipApart z TI TO i1 i2 l1 l2) (hz : IsZip s.heap z TI TO .none) (hTI : IsPair s.heap TI (.ref i1) (.ref i2)) (hTO : IsPair s.heap TO a b)
    (h1 : Ii j s.heap i1 l1 n1) (h2 : Ii k s.heap i2 l2 n2) (hl1 : Is j s.heap l1 xs) (hl2 : Is k s.heap l2 ys) (hx : xs[n1]? = some x) (hy : ys[n2]? = some y)
    (hQ : ∀ h', IsZip h' z TI TO (rawInt s.heap.objs.size) → IsPair h' TO x y → Ii j h' i1 l1 (n1 + 1) → Ii k h' i2 l2 (n2 + 1) → IsPair h' s.heap.objs.size x y → h'.objs.size = s.heap.objs.size + 1 →
      (∀ c o, c ≠ z → c ≠ TO → c ≠ i1 → c ≠ i2 → s.heap.get? c = some o → h'.get? c = some o) → Q (some (.ref s.heap.objs.size)) { s with heap := h' }) : wpAny (model prog w) A (pyNext (.ref z)) Q E s := by
  have hT : s.TypeIs (.ref z) "zip" := ⟨_, hz, rfl⟩
  unfold pyNext
  exact wpAny_bind (wpAny_attempt (wpAny_callSpecial?_slot (name := Str.ofString "__next__") hT F.slot_zip_next (wpAny_call_entry F.slot_zip_next hT F.entry_zip_next
    (z_item D hz hTI hTO h1 h2 hl1 hl2 hx hy fun h' a1 a2 a3 a4 a5 a6 a7 => wpAny_pure (hQ h' a1 a2 a3 a4 a5 a6 a7)) (F.args_zip_next_1 _))))
theorem py_end {j k : Bool} {z TI TO i1 i2 l1 l2 : Addr} {n1 n2 : Nat} {xs ys : Array Value} {a b : Value} {Q : Option Value → Shared → Prop} (hh : A.handled = none) (D : ZipApart z TI TO i1 i2 l1 l2) (hz : IsZip s.heap z TI TO .none) (hTI : IsPair s.heap TI (.ref i1) (.ref i2)) (hTO : IsPair s.heap TO a b)
    (h1 : Ii j s.heap i1 l1 n1) (h2 : Ii k s.heap i2 l2 n2) (hl1 : Is j s.heap l1 xs) (hl2 : Is k s.heap l2 ys) (hend : xs[n1]? = none ∨ ys[n2]? = none)
    (hQ : ∀ h', (∀ c o, c ≠ z → c ≠ TO → c ≠ i1 → c ≠ i2 → s.heap.get? c = some o → h'.get? c = some o) → Q none { s with heap := h' }) : wpAny (model prog w) A (pyNext (.ref z)) Q E s := by
  have hT : s.TypeIs (.ref z) "zip" := ⟨_, hz, rfl⟩
  unfold pyNext
  refine wpAny_bind (wpAny_attempt (wpAny_callSpecial?_slot (name := Str.ofString "__next__") hT F.slot_zip_next (wpAny_call_entry F.slot_zip_next hT F.entry_zip_next (z_end hh D hz hTI hTO h1 h2 hl1 hl2 hend fun h' e hk he => ?_) (F.args_zip_next_1 _))))
  obtain ⟨o, ho, hc⟩ := he
  exact wpAny_bind (wpAny_isInstance (T := "StopIteration") (b := true) ⟨o, ho, hc⟩ isSubtype_stop (wpAny_pure (hQ _ hk)))
/-! zip(list, tuple), zip(tuple, list) made -/
def kn (k : Bool) : String := bif k then "list_iterator" else "tuple_iterator"
def hp1 (j : Bool) (h : Heap) (l1 : Addr) : Heap := h.push { cls := .type (kn j), data := .fields #[.ref l1, .int 0 0] }
def hp2 (j k : Bool) (h : Heap) (l1 l2 : Addr) : Heap := (hp1 j h l1).push { cls := .type (kn k), data := .fields #[.ref l2, .int 0 0] }
def hp3 (j k : Bool) (h : Heap) (l1 l2 : Addr) : Heap := (hp2 j k h l1 l2).push { cls := .type "tuple", data := .seq #[.ref h.objs.size, .ref (hp1 j h l1).objs.size] }
def hp4 (j k : Bool) (h : Heap) (l1 l2 : Addr) : Heap := (hp3 j k h l1 l2).push { cls := .type "tuple", data := .seq #[.none, .none] }
def hp5 (j k : Bool) (h : Heap) (l1 l2 : Addr) : Heap := (hp4 j k h l1 l2).push { cls := .type "zip", data := .fields #[.none, .bool false, .bool false, .ref (hp2 j k h l1 l2).objs.size, .ref (hp3 j k h l1 l2).objs.size] }
theorem mk_lt (l1 l2 : Addr) (xs ys : Array Value) : Meets (Builtin.«zip.__new__» ⟨[.type "zip", .ref l1, .ref l2], []⟩) (fun _ R s => s.heap.IsList l1 xs ∧ s.heap.IsTuple l2 ys ∧ R (.ok (.ret (.ref (hp4 true false s.heap l1 l2).objs.size))) { s with heap := hp5 true false s.heap l1 l2 }) :=
  .of_wp fun prog w A R s h => by
    obtain ⟨hp, g, d, tk, os⟩ := s; obtain ⟨hl1, hl2, h⟩ := h
    have hsub := sub_zip
    have q1 : Heap.IsList (Shared.heap ⟨hp, g, d, tk, os⟩) l1 xs := hl1
    have q2 : Heap.IsTuple (Shared.heap ⟨hp.push { cls := .type "list_iterator", data := .fields #[.ref l1, .int 0 0] }, g, d, tk, os⟩) l2 ys := Heap.IsTuple.push hl2 _
    wp_walk using wpAny_pyIter_list q1, wpAny_pyIter_tuple q2
    exact ⟨_, rfl, h⟩
theorem mk_tl (l1 l2 : Addr) (xs ys : Array Value) : Meets (Builtin.«zip.__new__» ⟨[.type "zip", .ref l1, .ref l2], []⟩) (fun _ R s => s.heap.IsTuple l1 xs ∧ s.heap.IsList l2 ys ∧ R (.ok (.ret (.ref (hp4 false true s.heap l1 l2).objs.size))) { s with heap := hp5 false true s.heap l1 l2 }) :=
  .of_wp fun prog w A R s h => by
    obtain ⟨hp, g, d, tk, os⟩ := s; obtain ⟨hl1, hl2, h⟩ := h
    have hsub := sub_zip
    have q1 : Heap.IsTuple (Shared.heap ⟨hp, g, d, tk, os⟩) l1 xs := hl1
    have q2 : Heap.IsList (Shared.heap ⟨hp.push { cls := .type "tuple_iterator", data := .fields #[.ref l1, .int 0 0] }, g, d, tk, os⟩) l2 ys := Heap.IsList.push hl2 _
    wp_walk using wpAny_pyIter_tuple q1, wpAny_pyIter_list q2
    exact ⟨_, rfl, h⟩
theorem call_z {j k : Bool} {l1 l2 : Addr} {xs ys : Array Value} {Q : Value → Shared → Prop} (hl1 : Is j s.heap l1 xs) (hl2 : Is k s.heap l2 ys)
    (h : ∀ h', IsZip h' (s.heap.objs.size + 4) (s.heap.objs.size + 2) (s.heap.objs.size + 3) .none → IsPair h' (s.heap.objs.size + 2) (.ref s.heap.objs.size) (.ref (s.heap.objs.size + 1)) → IsPair h' (s.heap.objs.size + 3) .none .none →
      Ii j h' s.heap.objs.size l1 0 → Ii k h' (s.heap.objs.size + 1) l2 0 → h'.objs.size = s.heap.objs.size + 5 → (∀ c o, s.heap.get? c = some o → h'.get? c = some o) → Q (.ref (s.heap.objs.size + 4)) { s with heap := h' }) : wpAny (model prog w) A (call (.type "zip") [.ref l1, .ref l2]) Q E s := by
  have key : ∀ j k, (Ii j (hp5 j k s.heap l1 l2) s.heap.objs.size l1 0 ∧ Ii k (hp5 j k s.heap l1 l2) (s.heap.objs.size + 1) l2 0) → (∀ h', IsZip h' (s.heap.objs.size + 4) (s.heap.objs.size + 2) (s.heap.objs.size + 3) .none → IsPair h' (s.heap.objs.size + 2) (.ref s.heap.objs.size) (.ref (s.heap.objs.size + 1)) → IsPair h' (s.heap.objs.size + 3) .none .none →
      Ii j h' s.heap.objs.size l1 0 → Ii k h' (s.heap.objs.size + 1) l2 0 → h'.objs.size = s.heap.objs.size + 5 → (∀ c o, s.heap.get? c = some o → h'.get? c = some o) → Q (.ref (s.heap.objs.size + 4)) { s with heap := h' }) →
      (hp5 j k s.heap l1 l2).get? (hp4 j k s.heap l1 l2).objs.size = some { cls := .type "zip", data := .fields #[.none, .bool false, .bool false, .ref (hp2 j k s.heap l1 l2).objs.size, .ref (hp3 j k s.heap l1 l2).objs.size] } ∧ Q (.ref (hp4 j k s.heap l1 l2).objs.size) { s with heap := hp5 j k s.heap l1 l2 } := by
    intro j k hi h
    have z1 : (hp1 j s.heap l1).objs.size = s.heap.objs.size + 1 := Heap.size_push ..
    have z2 : (hp2 j k s.heap l1 l2).objs.size = s.heap.objs.size + 2 := by unfold hp2; rw [Heap.size_push, z1]
    have z3 : (hp3 j k s.heap l1 l2).objs.size = s.heap.objs.size + 3 := by unfold hp3; rw [Heap.size_push, z2]
    have z4 : (hp4 j k s.heap l1 l2).objs.size = s.heap.objs.size + 4 := by unfold hp4; rw [Heap.size_push, z3]
    have z5 : (hp5 j k s.heap l1 l2).objs.size = s.heap.objs.size + 5 := by unfold hp5; rw [Heap.size_push, z4]
    have g5 : (hp5 j k s.heap l1 l2).get? (hp4 j k s.heap l1 l2).objs.size = some _ := Heap.get?_push_size _ rfl
    have g4 : (hp5 j k s.heap l1 l2).get? (hp3 j k s.heap l1 l2).objs.size = some _ := Heap.get?_push_of_some _ (Heap.get?_push_size _ rfl)
    have g3 : (hp5 j k s.heap l1 l2).get? (hp2 j k s.heap l1 l2).objs.size = some _ := Heap.get?_push_of_some _ (Heap.get?_push_of_some _ (Heap.get?_push_size _ rfl))
    refine ⟨g5, ?_⟩
    rw [z2, z3, z4] at g5
    rw [z1, z2] at g3
    rw [z3] at g4
    rw [z4]
    exact h _ g5 g3 g4 hi.1 hi.2 z5 fun c o x => Heap.get?_push_of_some _ (Heap.get?_push_of_some _ (Heap.get?_push_of_some _ (Heap.get?_push_of_some _ (Heap.get?_push_of_some _ x))))
  have i1 : ∀ j k, (hp5 j k s.heap l1 l2).get? s.heap.objs.size = some { cls := .type (kn j), data := .fields #[.ref l1, .int 0 0] } := fun j k => Heap.get?_push_of_some _ (Heap.get?_push_of_some _ (Heap.get?_push_of_some _ (Heap.get?_push_of_some _ (Heap.get?_push_size _ rfl))))
  have i2 : ∀ j k, (hp5 j k s.heap l1 l2).get? (s.heap.objs.size + 1) = some { cls := .type (kn k), data := .fields #[.ref l2, .int 0 0] } := fun j k => by
    have z1 : (hp1 j s.heap l1).objs.size = s.heap.objs.size + 1 := Heap.size_push ..
    rw [← z1]
    exact Heap.get?_push_of_some _ (Heap.get?_push_of_some _ (Heap.get?_push_of_some _ (Heap.get?_push_size _ rfl)))
  have ii : ∀ j k, Ii j (hp5 j k s.heap l1 l2) s.heap.objs.size l1 0 ∧ Ii k (hp5 j k s.heap l1 l2) (s.heap.objs.size + 1) l2 0 := fun j k => by
    cases j <;> cases k <;> exact ⟨⟨_, i1 _ _, rfl, rfl⟩, ⟨_, i2 _ _, rfl, rfl⟩⟩
  cases j <;> cases k
  · exact call_zipT hl1 hl2 h
  · obtain ⟨q1, q2⟩ := key false true (ii false true) h
    exact callType_new F.called_zip (by decide) (F.typeCall_zip_2 _ _) (F.newCall_zip_2 _ _) (fun obj => F.args_object_init_3 obj _ _) F.entry_zip_new (mk_tl l1 l2 xs ys) ⟨hl1, hl2, ⟨⟨_, q1, rfl⟩, q2⟩⟩
  · obtain ⟨q1, q2⟩ := key true false (ii true false) h
    exact callType_new F.called_zip (by decide) (F.typeCall_zip_2 _ _) (F.newCall_zip_2 _ _) (fun obj => F.args_object_init_3 obj _ _) F.entry_zip_new (mk_lt l1 l2 xs ys) ⟨hl1, hl2, ⟨⟨_, q1, rfl⟩, q2⟩⟩
  · exact call_zip_2 hl1 hl2 h
end
/-- both as they stand at each turn, the items in new pairs -/
def Itx (K : PySem.W.Frag) (j k : Bool) (a b : Addr) : It :=
  ⟨fun i H => ∃ (xs ys : List V) (x y : V), Sq K j H a xs ∧ Sq K k H b ys ∧ xs[i]? = some x ∧ ys[i]? = some y,
    fun i H v H' => ∃ T x y, v = .ref T ∧ H T = none ∧ H' = upd H T (.tup [x, y]) ∧ (∀ xs, Sq K j H a xs → xs[i]? = some x) ∧ ∀ ys, Sq K k H b ys → ys[i]? = some y,
    fun i H => ∃ xs ys : List V, Sq K j H a xs ∧ Sq K k H b ys ∧ (xs.length ≤ i ∨ ys.length ≤ i)⟩
theorem mem5 {c a b d e f : Addr} (h : c ∈ [a, b, d, e, f]) : c = a ∨ c = b ∨ c = d ∨ c = e ∨ c = f := by simpa using h
theorem turn_x {P : Program} {w : World} {K : PySem.W.Frag} {elts : List Expr} {kk : Nat} {tpos : Pos} {j k : Bool} {a b z TI TO i1 i2 : Addr} (D : ZipApart z TI TO i1 i2 a b) :
    Turn P w K (.Tuple elts kk tpos) (Itx K j k a b) [z, TI, TO, i1, i2] z (fun i h => IsZip h z TI TO .none ∧ IsPair h TI (.ref i1) (.ref i2) ∧ (∃ x y, IsPair h TO x y) ∧ Ii j h i1 a i ∧ Ii k h i2 b i) where
  mem := by simp
  obj := fun i h st c hc => by
    obtain ⟨hz, hTI, ⟨x, y, hTO⟩, h1, h2⟩ := st
    rcases mem5 hc with q | q | q | q | q <;> rw [q]
    · exact ⟨_, hz, fun v q => nomatch q⟩
    · exact ⟨_, hTI, fun v q => nomatch q⟩
    · exact ⟨_, hTO, fun v q => nomatch q⟩
    · exact h1.ob
    · exact h2.ob
  keep := fun i h h' st k => by
    obtain ⟨hz, hTI, ⟨x, y, hTO⟩, h1, h2⟩ := st
    exact ⟨k z (by simp) _ hz, k TI (by simp) _ hTI, ⟨x, y, k TO (by simp) _ hTO⟩, h1.at_ fun o q => k i1 (by simp) o q, h2.at_ fun o q => k i2 (by simp) o q⟩
  item := by
    intro X hP hw hK hc i pins s σ H E I hf st hg
    subst hP hw hK
    obtain ⟨hz, hTI, ⟨x0, y0, hTO⟩, h1, h2⟩ := st; obtain ⟨xs, ys, x, y, hqx, hqy, hx, hy⟩ := hg
    obtain ⟨its, rv, p⟩ := Sq.is I hqx; obtain ⟨its2, rv2, p2⟩ := Sq.is I hqy
    obtain ⟨u, hu, ru⟩ := rv.get hx; obtain ⟨u2, hu2, ru2⟩ := rv2.get hy
    have ltz : z < s.heap.objs.size := Heap.lt_size hz
    refine py_item D hz hTI hTO h1 h2 p p2 (x := u) (y := u2) (by simpa using hu) (by simpa using hu2) fun g z' t' a' b' hT hsz hk => ⟨_, rfl, wpAny_letOwnedTupleGo_zip (s := { s with heap := g }) z' fun g2 z2 sb => ?_⟩
    have hT2 : g2.get? s.heap.objs.size = some { cls := .type "tuple", data := .seq #[u, u2] } := (sb.2 _ (Nat.ne_of_gt ltz)).trans hT
    have new : ObjOk X.prog X.w (upd H s.heap.objs.size (.tup [x, y])) g2 s.heap.objs.size (.tup [x, y]) := ⟨by show 2 ≤ sizeLine; decide, [u, u2], .cons ru (.cons ru2 .nil), ⟨_, hT2, rfl, _, rfl⟩⟩
    have nin : ∀ {c : Addr}, c ∉ [z, TI, TO, i1, i2] → c ≠ z ∧ c ≠ TO ∧ c ≠ i1 ∧ c ≠ i2 := fun {c} h => ⟨fun q => h (by simp [q]), fun q => h (by simp [q]), fun q => h (by simp [q]), fun q => h (by simp [q])⟩
    have J : Inv X pins σ (upd H s.heap.objs.size (.tup [x, y])) { s with heap := g2 } := I.turnedNew (t' := s.toks) (ch := [z, TI, TO, i1, i2]) (fun c o hb q => let ⟨n1, n2, n3, n4⟩ := nin hb; (sb.2 c n1).trans (hk c o n1 n2 n3 n4 q)) hf (Nat.le_refl _) new
    refine ⟨.ref s.heap.objs.size, _, J, rfl, ⟨_, x, y, rfl, I.hok.fresh (Nat.le_refl _), rfl, fun l hl => by rw [Sq.inj I hl hqx]; exact hx, fun l hl => by rw [Sq.inj I hl hqy]; exact hy⟩,
      ⟨z2, (sb.2 _ D.TIz).trans (hk _ _ D.TIz D.TITO D.TIi1 D.TIi2 hTI), ⟨u, u2, (sb.2 _ D.TOz).trans t'⟩, a'.at_ fun o q => (sb.2 _ D.i1z).trans q, b'.at_ fun o q => (sb.2 _ D.i2z).trans q⟩, fun c hcm => ?_⟩
    have hlt : c < s.heap.objs.size := by
      rcases mem5 hcm with q | q | q | q | q <;> rw [q]
      · exact ltz
      · exact Heap.lt_size hTI
      · exact Heap.lt_size hTO
      · exact h1.lt
      · exact h2.lt
    rw [upd_ne (Nat.ne_of_lt hlt)]
    exact (hf c hcm).1
  done := by
    intro X hP hw hK hc i pins s σ H E I hf st hg
    subst hP hw hK
    obtain ⟨hz, hTI, ⟨x0, y0, hTO⟩, h1, h2⟩ := st; obtain ⟨xs, ys, hqx, hqy, hend⟩ := hg
    obtain ⟨its, rv, p⟩ := Sq.is I hqx; obtain ⟨its2, rv2, p2⟩ := Sq.is I hqy
    have l1 := rv.length; have l2 := rv2.length
    have he : its.toArray[i]? = none ∨ its2.toArray[i]? = none := by
      rcases hend with q | q
      · left; simp; omega
      · right; simp; omega
    have nin : ∀ {c : Addr}, c ∉ [z, TI, TO, i1, i2] → c ≠ z ∧ c ≠ TO ∧ c ≠ i1 ∧ c ≠ i2 := fun {c} h => ⟨fun q => h (by simp [q]), fun q => h (by simp [q]), fun q => h (by simp [q]), fun q => h (by simp [q])⟩
    exact py_end (I.ok.hd hc) D hz hTI hTO h1 h2 p p2 he fun h' hk => ⟨rfl, I.turnedL (t' := s.toks) (ch := [z, TI, TO, i1, i2]) (fun c o hb q => let ⟨n1, n2, n3, n4⟩ := nin hb; hk c o n1 n2 n3 n4 q) hf⟩
  self := fun A i s Q E st h => wpAny_pyIter_zip st.1 h
def iZx (K : PySem.W.Frag) (ta : TA) : TI := fun σ H R => ta σ H fun vs H1 => ∃ a b j k xs ys, vs = [.ref a, .ref b] ∧ Sq K j H1 a xs ∧ Sq K k H1 b ys ∧ R (Itx K j k a b) H1
theorem pi_zx {X : Cx} {e e2 : Expr} {ta : TA} {p pos tpos : Pos} {elts : List Expr} {kk : Nat} (hg : Gl X "zip") (hm : X.mg "zip" = none) (ha : PA X [e, e2] ta) (hs : starEach [e, e2] X.env = (false, eval e X.env) :: starEach [e2] X.env := by rfl) (hpl : (backTo pos (starEach [e2] X.env)).any (·.1) = false := by rfl) :
    PI X (.Tuple elts kk tpos) (.Call (.Name "zip" p) [e, e2] [] pos) (iZx X.K ta) := by
  refine ⟨fun pins s σ H R I h => Call_ (ld_blt I hg hm PyProof.Rows.boot_zip (PyProof.Rows.callWith_type1 (thn (ha.run pos pins s σ H _ I h) fun us s1 ⟨vs, H1, I1, r1, q1⟩ => ?_) hs hpl))⟩
  obtain ⟨a, b, j, k, xs, ys, rfl, hqx, hqy, q⟩ := q1
  obtain ⟨u1, u2, rfl, r1, r2⟩ := vals2 r1
  cases (show u1 = Value.ref a from r1); cases (show u2 = Value.ref b from r2)
  obtain ⟨its, rv, p1⟩ := Sq.is I1 hqx; obtain ⟨its2, rv2, p2⟩ := Sq.is I1 hqy
  refine call_z p1 p2 fun h' hz hTI hTO h1 h2 hsz hk => wpAny_pyIter_zip hz ?_
  have I2 : Inv X pins σ H1 { s1 with heap := h' } := I1.kept (t' := s1.toks) hk
  refine ⟨_, _, _, _, H1, rfl, I2, turn_x (PySem.W.ktu_apart s1.heap.objs.size a b p1.lt p2.lt), ⟨hz, hTI, ⟨_, _, hTO⟩, h1, h2⟩, fun c hcm => ?_, q⟩
  have hle : s1.heap.objs.size ≤ c := by rcases mem5 hcm with z | z | z | z | z <;> rw [z] <;> omega
  exact I1.fpOk hle (I1.hok.fresh hle)
/-! a list or a tuple walked -/
def iLT (K : PySem.W.Frag) (te : TE) : TI := fun σ H R => te σ H fun x H1 => ∃ a, x = .ref a ∧ ((∃ xs, SqL K H1 a xs) ∧ R (Itl K a) H1 ∨ (∃ xs, SqT K H1 a xs) ∧ R (Itt K a) H1)
theorem pi_lt {X : Cx} {tg l : Expr} {tl : TE} (hl : PE X l tl) : PI X tg l (iLT X.K tl) := by
  refine ⟨fun pins s σ H R I h => ?_⟩
  refine thn (hl.run pins s σ H _ I h) fun v s1 ⟨x, H1, I1, r1, a, e, q⟩ => ?_
  subst e
  cases (show v = Value.ref a from r1)
  rcases q with ⟨⟨xs, hq⟩, q⟩ | ⟨⟨xs, hq⟩, q⟩
  · obtain ⟨its, rv, p, hz⟩ := I1.list hq
    refine wpAny_pyIter_list p.isList ⟨s1.heap.objs.size, [s1.heap.objs.size], _, _, H1, rfl, I1.kept (t' := s1.toks) fun b o e => Heap.get?_push_of_some _ e, turn_list a _, ⟨_, Heap.get?_push_size _ rfl, rfl, rfl⟩, fun b hb => ?_, q⟩
    rw [List.mem_singleton.mp hb]
    exact I1.fpOk (Nat.le_refl _) (I1.hok.fresh (Nat.le_refl _))
  · obtain ⟨its, rv, p, hz⟩ := I1.tuple hq
    refine wpAny_pyIter_tuple p ⟨s1.heap.objs.size, [s1.heap.objs.size], _, _, H1, rfl, I1.kept (t' := s1.toks) fun b o e => Heap.get?_push_of_some _ e, turn_tuple a _, ⟨_, Heap.get?_push_size _ rfl, rfl, rfl⟩, fun b hb => ?_, q⟩
    rw [List.mem_singleton.mp hb]
    exact I1.fpOk (Nat.le_refl _) (I1.hok.fresh (Nat.le_refl _))
end Zx

set_option Elab.async false
set_option linter.all false
set_option maxRecDepth 100000
set_option maxHeartbeats 4000000
namespace Uv
open PySem PySem.Spec L2 Zx
open PyProof.Rows hiding St
/-! ### walks over a list or a tuple, over zips, over enumerate -/
/-- what is read as a list or as a tuple stays so -/
def Kx (K : PySem.W.Frag) (H H' : Hp) : Prop := ∀ (p : Addr) (xs : List V), (SqL K H p xs → SqL K H' p xs) ∧ (SqT K H p xs → SqT K H' p xs)
theorem Ex.kx {K : PySem.W.Frag} {H H' : Hp} (e : Ex H H') : Kx K H H' := fun p xs => ⟨fun h => Ex.sl h e, fun h => Ex.st h e⟩
theorem Kb.kx {K : PySem.W.Frag} {b : Addr} {H H' : Hp} (e : Kb b H H') : Kx K H H' := fun p xs => ⟨fun h => e.l h, fun h => e.t h⟩
theorem Kx.sq {K : PySem.W.Frag} {H H' : Hp} {k : Bool} {a : Addr} {xs : List V} (e : Kx K H H') (h : Sq K k H a xs) : Sq K k H' a xs := by
  cases k
  · exact (e a xs).2 h
  · exact (e a xs).1 h
def SqA (K : PySem.W.Frag) (H : Hp) (p : Addr) (xs : List V) : Prop := SqL K H p xs ∨ SqT K H p xs
theorem SqA.kx {K : PySem.W.Frag} {H H' : Hp} {p : Addr} {xs : List V} (h : SqA K H p xs) (e : Kx K H H') : SqA K H' p xs := h.imp (e p xs).1 (e p xs).2
theorem SqA.sq {K : PySem.W.Frag} {H : Hp} {p : Addr} {xs : List V} (h : SqA K H p xs) : ∃ k, Sq K k H p xs := by
  rcases h with h | h
  · exact ⟨true, h⟩
  · exact ⟨false, h⟩
section
variable {D : Ends} {σ : L2.St} {H : Hp} {K : PySem.W.Frag}
theorem s_ilt {R : It → Hp → Prop} {te : TE} (h : te σ H fun x H1 => ∃ a, x = .ref a ∧ ((∃ xs, SqL K H1 a xs) ∧ R (Itl K a) H1 ∨ (∃ xs, SqT K H1 a xs) ∧ R (Itt K a) H1)) : iLT K te σ H R := h
theorem s_izx {R : It → Hp → Prop} {ta : TA} (h : ta σ H fun vs H1 => ∃ a b j k xs ys, vs = [.ref a, .ref b] ∧ Sq K j H1 a xs ∧ Sq K k H1 b ys ∧ R (Itx K j k a b) H1) : iZx K ta σ H R := h
theorem s_ienum {R : It → Hp → Prop} {ta : TA} (h : ta σ H fun vs H1 => ∃ a xs, vs = [.ref a] ∧ SqL K H1 a xs ∧ R (Ite K a) H1) : iEnum K ta σ H R := h
theorem loopA {p : Addr} {xs : List V} {g : TG} {tb : TS} (hp : SqA K H p xs) (I : Nat → L2.St → Hp → Prop) (h0 : I 0 σ H) (keep : ∀ i σ H', I i σ H' → (SqL K H p xs → SqL K H' p xs) ∧ (SqT K H p xs → SqT K H' p xs)) (hx : ∀ σ H, I xs.length σ H → D.nx σ H)
    (hb : ∀ i x σ H, xs[i]? = some x → I i σ H → g x σ H fun σ2 H2 => tb { D with nx := I (i + 1), ct := I (i + 1), bk := D.nx } σ2 H2) :
    ∃ a, V.ref p = V.ref a ∧ ((∃ xs, SqL K H a xs) ∧ LoopR (Itl K a) g tb D σ H ∨ (∃ xs, SqT K H a xs) ∧ LoopR (Itt K a) g tb D σ H) := by
  rcases hp with hp | hp
  · obtain ⟨a, e, _, l⟩ := loopL (D := D) (g := g) (tb := tb) (σ := σ) (H := H) (xs := xs) (p := p) I h0 (fun i σ H' h => (keep i σ H' h).1 hp) hx hb
    cases e
    exact ⟨p, rfl, .inl ⟨⟨xs, hp⟩, l⟩⟩
  · obtain ⟨a, e, _, l⟩ := loopT (D := D) (g := g) (tb := tb) (σ := σ) (H := H) (xs := xs) (p := p) I h0 (fun i σ H' h => (keep i σ H' h).2 hp) hx hb
    cases e
    exact ⟨p, rfl, .inr ⟨⟨xs, hp⟩, l⟩⟩
/-- a loop over a zip; n: the shorter length -/
theorem loopZ {j k : Bool} {a b : Addr} {xs ys : List V} {g : TG} {tb : TS} (n : Nat) (hn : n = min xs.length ys.length) (I : Nat → L2.St → Hp → Prop) (h0 : I 0 σ H) (ha : ∀ i σ H', I i σ H' → Sq K j H' a xs) (hb : ∀ i σ H', I i σ H' → Sq K k H' b ys) (hx : ∀ σ H, I n σ H → D.nx σ H)
    (hs : ∀ i x y T σ H, xs[i]? = some x → ys[i]? = some y → I i σ H → H T = none → g (.ref T) σ (upd H T (.tup [x, y])) fun σ2 H2 => tb { D with nx := I (i + 1), ct := I (i + 1), bk := D.nx } σ2 H2) :
    ∃ a' b' j k xs ys, [V.ref a, V.ref b] = [V.ref a', V.ref b'] ∧ Sq K j H a' xs ∧ Sq K k H b' ys ∧ LoopR (Itx K j k a' b') g tb D σ H := by
  refine ⟨a, b, j, k, xs, ys, rfl, ha _ _ _ h0, hb _ _ _ h0, loop_n n I h0 (fun σ H' h => ⟨xs, ys, ha _ _ _ h, hb _ _ _ h, by omega⟩) (fun i σ H' h z => ⟨xs, ys, xs[i]'(by omega), ys[i]'(by omega), ha _ _ _ h, hb _ _ _ h, List.getElem?_eq_getElem _, List.getElem?_eq_getElem _⟩) hx fun i v σ H2 H' z h y => ?_⟩
  obtain ⟨T, x, y', rfl, hT, rfl, f1, f2⟩ := y
  exact hs i x y' T σ H2 (f1 xs (ha _ _ _ h)) (f2 ys (hb _ _ _ h)) h hT
theorem loopE {a : Addr} {xs : List V} {g : TG} {tb : TS} (I : Nat → L2.St → Hp → Prop) (h0 : I 0 σ H) (ha : ∀ i σ H', I i σ H' → SqL K H' a xs) (hx : ∀ σ H, I xs.length σ H → D.nx σ H)
    (hs : ∀ i x T σ H, xs[i]? = some x → I i σ H → H T = none → g (.ref T) σ (upd H T (.tup [.int (i : Nat), x])) fun σ2 H2 => tb { D with nx := I (i + 1), ct := I (i + 1), bk := D.nx } σ2 H2) :
    ∃ a' xs, [V.ref a] = [V.ref a'] ∧ SqL K H a' xs ∧ LoopR (Ite K a') g tb D σ H := by
  refine ⟨a, xs, rfl, ha _ _ _ h0, loop_n xs.length I h0 (fun σ H' h => ⟨xs, ha _ _ _ h, Nat.le_refl _⟩) (fun i σ H' h z => ⟨xs, xs[i], ha _ _ _ h, List.getElem?_eq_getElem z⟩) hx fun i v σ H2 H' z h y => ?_⟩
  obtain ⟨T, x, rfl, hT, rfl, f1⟩ := y
  exact hs i x T σ H2 (f1 xs (ha _ _ _ h)) h hT
/-! comprehensions -/
abbrev LcB (σ : L2.St) (H : Hp) (g : TG) (tt : TT) (te : TE) (vs : List Nat) (I : Addr → Nat → List V → Hp → Prop) (D : Addr) (i : Nat) (x : V) (H' : Hp) : Prop :=
  g x (wipe σ vs) H' fun σ2 H3 => wipe σ2 vs = wipe σ vs ∧ tt σ2 H3 fun b H4 => if b = true then te σ2 H4 fun y H5 => ∃ acc, H5 D = some (.lst acc) ∧ acc.length < sizeLine ∧ ∃ acc', I D (i + 1) acc' (upd H5 D (.lst (acc ++ [y]))) else ∃ acc, I D (i + 1) acc H4
theorem lc_d {J : It} {g : TG} {tt : TT} {te : TE} {vs : List Nat} {Q : VK} (n : Nat) (I : Addr → Nat → List V → Hp → Prop) (h0 : ∀ D, H D = none → I D 0 [] (upd H D (.lst [])))
    (hs : ∀ D acc H', H D = none → I D n acc H' → J.stop n H') (hg : ∀ D i acc H', H D = none → I D i acc H' → i < n → J.go i H') (hx : ∀ D acc H', H D = none → I D n acc H' → Q (.ref D) H')
    (hb : ∀ D i x acc H2 H', H D = none → i < n → I D i acc H2 → J.yld i H2 x H' → LcB σ H g tt te vs I D i x H') : LcR J g tt te vs Q σ H := by
  intro D hD
  refine ⟨fun i m H => i + m = n ∧ ∃ acc, I D i acc H, ⟨n, by omega, [], h0 D hD⟩, fun i m H' ⟨e, acc, h⟩ => ?_⟩
  by_cases z : i < n
  · exact .inr ⟨hg D i acc H' hD h z, fun H' => ∃ acc, I D (i + 1) acc H', fun H2 h' => ⟨m - 1, by omega, by omega, h'⟩, fun x H2 y => hb D i x acc H' H2 hD z h y⟩
  · have : i = n := by omega
    subst this
    exact .inl ⟨hs D acc H' hD h, hx D acc H' hD h⟩
theorem lcA {p : Addr} {xs : List V} {g : TG} {tt : TT} {te : TE} {vs : List Nat} {Q : VK} (hp : SqA K H p xs) (I : Addr → Nat → List V → Hp → Prop) (h0 : ∀ D, H D = none → I D 0 [] (upd H D (.lst [])))
    (he : ∀ D i acc H', H D = none → I D i acc H' → Kx K H H') (hx : ∀ D acc H', H D = none → I D xs.length acc H' → Q (.ref D) H')
    (hb : ∀ D i x acc H', H D = none → xs[i]? = some x → I D i acc H' → LcB σ H g tt te vs I D i x H') :
    ∃ a, V.ref p = V.ref a ∧ ((∃ xs, SqL K H a xs) ∧ LcR (Itl K a) g tt te vs Q σ H ∨ (∃ xs, SqT K H a xs) ∧ LcR (Itt K a) g tt te vs Q σ H) := by
  rcases hp with hp | hp
  · refine ⟨p, rfl, .inl ⟨⟨xs, hp⟩, lc_d xs.length I h0 (fun D acc H' n h => ⟨xs, (he _ _ _ _ n h p xs).1 hp, Nat.le_refl _⟩) (fun D i acc H' n h z => ⟨xs, _, (he _ _ _ _ n h p xs).1 hp, List.getElem?_eq_getElem z⟩) hx fun D i x acc H2 H' n z h y => ?_⟩⟩
    obtain ⟨rfl, y⟩ := y
    exact hb D i x acc _ n (y xs ((he _ _ _ _ n h p xs).1 hp)) h
  · refine ⟨p, rfl, .inr ⟨⟨xs, hp⟩, lc_d xs.length I h0 (fun D acc H' n h => ⟨xs, (he _ _ _ _ n h p xs).2 hp, Nat.le_refl _⟩) (fun D i acc H' n h z => ⟨xs, _, (he _ _ _ _ n h p xs).2 hp, List.getElem?_eq_getElem z⟩) hx fun D i x acc H2 H' n z h y => ?_⟩⟩
    obtain ⟨rfl, y⟩ := y
    exact hb D i x acc _ n (y xs ((he _ _ _ _ n h p xs).2 hp)) h
theorem lcZ {j k : Bool} {a b : Addr} {xs ys : List V} {g : TG} {tt : TT} {te : TE} {vs : List Nat} {Q : VK} (n : Nat) (hn : n = min xs.length ys.length) (ha : Sq K j H a xs) (hb : Sq K k H b ys) (I : Addr → Nat → List V → Hp → Prop) (h0 : ∀ D, H D = none → I D 0 [] (upd H D (.lst [])))
    (he : ∀ D i acc H', H D = none → I D i acc H' → Kx K H H') (hx : ∀ D acc H', H D = none → I D n acc H' → Q (.ref D) H')
    (hs : ∀ D i x y T acc H', H D = none → xs[i]? = some x → ys[i]? = some y → I D i acc H' → H' T = none → LcB σ H g tt te vs I D i (.ref T) (upd H' T (.tup [x, y]))) :
    ∃ a' b' j k xs ys, [V.ref a, V.ref b] = [V.ref a', V.ref b'] ∧ Sq K j H a' xs ∧ Sq K k H b' ys ∧ LcR (Itx K j k a' b') g tt te vs Q σ H := by
  refine ⟨a, b, j, k, xs, ys, rfl, ha, hb, lc_d n I h0 (fun D acc H' nD h => ⟨xs, ys, (he _ _ _ _ nD h).sq ha, (he _ _ _ _ nD h).sq hb, by omega⟩) (fun D i acc H' nD h z => ⟨xs, ys, xs[i]'(by omega), ys[i]'(by omega), (he _ _ _ _ nD h).sq ha, (he _ _ _ _ nD h).sq hb, List.getElem?_eq_getElem _, List.getElem?_eq_getElem _⟩) hx fun D i v acc H2 H' nD z h y => ?_⟩
  obtain ⟨T, x, y', rfl, hT, rfl, f1, f2⟩ := y
  exact hs D i x y' T acc H2 nD (f1 xs ((he _ _ _ _ nD h).sq ha)) (f2 ys ((he _ _ _ _ nD h).sq hb)) h hT
end
/-! ### a method of a built-in type, append -/
section
variable {σ : L2.St} {H : Hp} {Q : VK} {K : PySem.W.Frag}
theorem s_bm {T : String} {r : V → List V → Hp → VK → Prop} {to : TE} {t : TA} (h : to σ H fun x H1 => tyV K T x H1 ∧ t σ H1 fun xs H2 => r x xs H2 Q) : tBM K T r to t σ H Q := h
theorem s_tyL {p : Addr} {xs : List V} {P : Prop} (h : SqL K H p xs) (q : P) : tyV K "list" (.ref p) H ∧ P := ⟨Or.inl ⟨rfl, xs, h⟩, q⟩
theorem s_app {l : Addr} {xs : List V} {y : V} (h : H l = some (.lst xs)) (z : xs.length < sizeLine) (q : Q .non (upd H l (.lst (xs ++ [y])))) : rAppend (.ref l) [y] H Q := ⟨l, xs, y, rfl, rfl, h, z, q⟩
end
/-! ### in a dict -/
section
variable {X : Cx} {σ : L2.St} {H : Hp} {Q : VK} {td ty : TE}
theorem s_din (h : ty σ H fun y H1 => td σ H1 fun x H2 => ∃ a o, x = .ref a ∧ DGet H2 a y o ∧ Q (.bl o.isSome) H2) : tDIn ty td σ H Q := h
theorem s_dnotin (h : ty σ H fun y H1 => td σ H1 fun x H2 => ∃ a o, x = .ref a ∧ DGet H2 a y o ∧ Q (.bl (!o.isSome)) H2) : tDNotIn ty td σ H Q := h
end
/-! ### x in text, str(a list or tuple) -/
def rInTx (neg : Bool) : R2 := fun x y H Q => match x, y with
  | .str a, .str b => Q (.bl (neg.xor (!(Builtin.Str.occurrences b a 0 b.length 1).isEmpty))) H
  | _, _ => False
theorem op_inTx {X : Cx} : OpR X (compareOp .In) (rInTx false) := by
  intro pins s σ H x y u v Q I rx ry h
  cases x with
  | str a =>
    cases y with
    | str b => exact op_in_str pins s σ H _ _ _ _ Q I rx ry ⟨a, b, rfl, rfl, by simpa [rInTx] using h⟩
    | _ => exact h.elim
  | _ => exact h.elim
theorem op_notInTx {X : Cx} : OpR X (compareOp .NotIn) (rInTx true) := by
  intro pins s σ H x y u v Q I rx ry h
  cases x with
  | str a =>
    cases y with
    | str b => exact op_notIn_str pins s σ H _ _ _ _ Q I rx ry ⟨a, b, rfl, rfl, by simpa [rInTx] using h⟩
    | _ => exact h.elim
  | _ => exact h.elim
/-- str of plain data: numbers, texts, lists and tuples -/
def uStrD (K : PySem.W.Frag) : List V → Hp → VK → Prop := fun xs H Q => match xs with
  | [.int i] => i.natAbs.log2 < 1920 ∧ Q (.str (toString i)) H
  | [.str a] => Q (.str a) H
  | [.ref a] => ∃ d, Dp K H (.ref a) d ∧ d.showable = true ∧ d.hasDict = false ∧ d.depth ≤ 60 ∧ d.shown.length ≤ sizeLine ∧ Q (.str d.shown) H
  | _ => False
theorem call_uStrD {X : Cx} {k : Nat} (hr : Rm k X.A) : CallR X (.type "str") (uStrD X.K) := by
  intro pins s σ H xs us Q I r h
  match xs, h with
  | [.int i], h => exact call_str_int pins s σ H _ us Q I r ⟨i, rfl, h.1, h.2⟩
  | [.str a], h => exact SkE.call_str_str pins s σ H _ us Q I r ⟨a, rfl, h⟩
  | [.ref a], ⟨d, hd, hs, hn, hdp, hl, q⟩ =>
    obtain ⟨u, rfl, rv⟩ := vals1 r
    cases (show u = Value.ref a from rv)
    obtain ⟨as, rd⟩ := Dp.reads I d _ _ hd rv
    have hu := hr.r.un
    exact str_of_reads rd hs (fun z => by rw [hn] at z; cases z) hr.g (by omega) (fun _ _ z => z) (fun h' t tk k => ⟨.str d.shown, H, I.kept (t' := tk) k, ⟨_, rfl⟩, q⟩) hl
/-! ### tuple(..) -/
def uTup (K : PySem.W.Frag) : List V → Hp → VK → Prop := fun xs H Q => match xs with
  | [.ref p] => ∃ ys, (SqL K H p ys ∧ ∀ l, H l = none → Q (.ref l) (upd H l (.tup ys))) ∨ (SqT K H p ys ∧ Q (.ref p) H)
  | _ => False
theorem call_uTup {X : Cx} : CallR X (.type "tuple") (uTup X.K) := by
  intro pins s σ H xs us Q I r h
  match xs, h with
  | [.ref p], ⟨ys, h⟩ => exact call_tuple_of pins s σ H _ us Q I r ⟨p, ys, rfl, h⟩
theorem call_uTupK {X : Cx} {K : PySem.W.Frag} (e : X.K = K) : CallR X (.type "tuple") (uTup K) := by subst e; exact call_uTup
/-! ### tuples joined, cut, repeated: what they are, wherever they stand -/
section
variable {K : PySem.W.Frag} {H : Hp} {Q : VK} {a b : Addr} {xs ys : List V}
theorem s_catT (ha : SqT K H a xs) (hb : SqT K H b ys) (c : xs.length + ys.length ≤ sizeLine) (h : ∀ q H', Ex H H' → SqT K H' q (xs ++ ys) → Q (.ref q) H') : uAdd K (.ref a) (.ref b) H Q :=
  .inr ⟨a, b, xs, ys, rfl, rfl, ha, hb, c, fun e => h b H (exR H) (by rw [e]; exact hb), fun _ e => h a H (exR H) (by rw [e, List.append_nil]; exact ha), fun _ _ p n => h p _ (exN n) (.of upd_same)⟩
theorem cut_all (lo hi : Option Int) (h : HT.sIx xs.length 0 lo = 0 ∧ HT.sIx xs.length xs.length hi = xs.length) : cutV xs lo hi = xs := by
  unfold cutV
  rw [h.1, h.2, List.drop_zero, Nat.sub_zero, List.take_length]
theorem s_slT {lo hi : Option Int} (ha : SqT K H a xs) (h : ∀ q H', Ex H H' → SqT K H' q (cutV xs lo hi) → Q (.ref q) H') : uSl K (.ref a) lo hi H Q :=
  .inr ⟨a, xs, rfl, ha, fun e => h a H (exR H) (by rw [cut_all lo hi e]; exact ha), fun _ p n => h p _ (exN n) (.of upd_same)⟩
theorem s_slL {lo hi : Option Int} (ha : SqL K H a xs) (h : ∀ q H', Ex H H' → H' q = some (.lst (cutV xs lo hi)) → Q (.ref q) H') : uSl K (.ref a) lo hi H Q :=
  .inl ⟨a, xs, rfl, ha, fun p n => h p _ (exN n) upd_same⟩
theorem s_repT {k : Int} (ha : SqT K H a xs) (ne : xs ≠ []) (k1 : 1 ≤ k) (k2 : k ≤ 1000) (l : xs.length ≤ 1000) (h : ∀ q H', Ex H H' → SqT K H' q (List.replicate k.toNat xs).flatten → Q (.ref q) H') : uMul K (.ref a) (.int k) H Q := by
  by_cases e : k = 1
  · subst e
    exact .inr (.inr ⟨a, xs, rfl, rfl, ha, h a H (exR H) (by simpa using ha)⟩)
  · exact .inr (.inl ⟨a, k, xs, rfl, rfl, ha, ne, by omega, k2, l, fun p n => h p _ (exN n) (.of upd_same)⟩)
theorem rep1 (k : Nat) (x : V) : (List.replicate k [x]).flatten = List.replicate k x := by
  induction k with
  | zero => rfl
  | succ n ih => rw [List.replicate_succ, List.flatten_cons, ih]; rfl
theorem s_tupOfL {p : Addr} (hp : SqL K H p xs) (h : ∀ q H', Ex H H' → SqT K H' q xs → Q (.ref q) H') : uTup K [.ref p] H Q := ⟨xs, .inl ⟨hp, fun l n => h l _ (exN n) (.of upd_same)⟩⟩
theorem s_tupOfT {p : Addr} (hp : SqT K H p xs) (h : Q (.ref p) H) : uTup K [.ref p] H Q := ⟨xs, .inr ⟨hp, h⟩⟩
end
/-! ### a token is out -/
structure PTT (X : Cx) (e : Expr) (t : TT) : Prop where
  run : ∀ (pins : List (Addr × Obj)) (s : Shared) (σ : L2.St) (H : Hp) (Q : Bool → Hp → Prop), L2.Inv X pins σ H s → t σ H Q → wpAny (model X.prog X.w) X.A (isTrue e X.env (eval e X.env)) (fun c s1 => (c = false → 1 ≤ s1.toks) ∧ TP X pins σ Q c s1) X.xe s
section
variable {X : Cx} {a b c e : Expr} {ta tb te : TE} {tA tB' : TT} {rest : List Stmt} {t u : TS} {pos p1 p2 p3 : Pos}
/-- 'c' in b -/
theorem ptt_in {op : CmpOp} {r : R2} {x : Str} {j : Nat} (ho : OpR X (compareOp op) r) (hb : PE X b tb) (hm : behindInMarks op b = false) : PTT X (.Compare (.Constant (.str x) j p1) [op] [b] pos) (tTest (tOp r (tC (.str x)) tb)) := by
  refine ⟨fun pins s σ H Q I h => ?_⟩
  refine wpAny_isTrue_Compare1 (Calls.Constant_str ?_) hm
  have n1 : 1 ≤ ({ s with toks := s.toks + 1 } : Shared).toks := Nat.le_add_left _ _
  refine wpAny_mono (wpAny_toks_of n1 (hb.run pins _ σ H _ (I.tok (s.toks + 1)) h)) (fun v s2 ⟨n2, y, H2, I2, r2, q2⟩ => ?_) fun _ _ z => z.2
  refine wpAny_mono (wpAny_toks_of n2 (ho pins s2 σ H2 (.str x) y _ v _ I2 ⟨s.toks, rfl⟩ r2 q2)) (fun w' s3 ⟨n3, z, H3, I3, r3, k, e, q3⟩ => ?_) fun _ _ z => z.2
  subst e
  cases r3
  exact wpAny_truthy_bool ⟨fun _ => n3, H3, I3, q3⟩
theorem ptt_or (ha : PT X a tA) (hb : PTT X b tB') : PTT X (.BoolOp .Or [a, b] pos) (tOr tA tB') := by
  refine ⟨fun pins s σ H Q I h => ?_⟩
  refine isTrue_or (thn (ha.run pins s σ H _ I h) fun c s1 ⟨H1, I1, q1⟩ => ?_)
  cases c with
  | true => exact ⟨(fun z => by cases z), H1, I1, q1⟩
  | false =>
    refine isTrue_or (thn (hb.run pins s1 σ H1 Q I1 q1) fun d s2 e => ?_)
    cases d with
    | false => exact isTrue_or_nil e
    | true => exact e
theorem pss_ifRet (hc : PTT X c tA) (he : PE X e te) (h2 : PSsT X rest u) : PSs X (.If c [.Return (some e) p1] [] pos :: rest) (tSeq (tIfS tA (tRet te) tNext) u) := by
  refine ⟨fun pins s σ H D I h => ?_⟩
  have h3 : tA σ H fun d H1 => if d = true then tRet te { D with nx := u D } σ H1 else u D σ H1 := h
  refine wpAny_execs_cons (wpAny_If (thn (hc.run pins s σ H _ I h3) fun d s1 ⟨n, H1, I1, q1⟩ => ?_))
  cases d with
  | true => exact wpAny_execs_cons (wpAny_Return_some (thn (he.run pins s1 σ H1 _ I1 q1) fun v s2 ⟨x, H2, I2, r2, q2⟩ => ⟨x, σ, H2, I2, r2, q2⟩))
  | false => exact wpAny_execs_nil (h2 pins s1 σ H1 D (n rfl) I1 q1)
theorem pet_m1 {id : String} {name : Str} {apos : Pos} {r : V → List V → Hp → VK → Prop} (slot : Slot "str" name id) (ty : typeOf (.builtin id) = pure (.type "method_descriptor")) (rule : MtR X id r) (ho : PET X a ta) (he : PE X e te)
    (hs : starEach [e] X.env = [(false, eval e X.env)] := by rfl) (hbase : attributeBase a name X.env (eval a X.env) = eval a X.env := by rfl) (hline : (apos.endLine == pos.line) = true := by rfl) : PET X (.Call (.Attribute a name apos) [e] [] pos) (tM1 r ta te) := by
  intro pins s σ H Q h0 I h
  refine PySem.Call_method1 hbase hs hline (thn (ho pins s σ H _ h0 I h) fun v s1 ⟨x, H1, I1, r1, q1⟩ => ?_)
  obtain ⟨⟨z, rfl⟩, q1⟩ := q1
  obtain ⟨t, rfl⟩ := _root_.id r1
  exact ⟨"str", _, F.plainAttrs_str, slot, ty, typeIs_str _ _ _, (fun _ e => nomatch e), Calls.callWith_builtin rfl (Calls.evalArgs_plain (Calls.spliced_cons (thn (he.run pins s1 σ H1 _ I1 q1) fun u s2 ⟨y, H2, I2, r2, q2⟩ => Calls.spliced_nil (rule pins s2 σ H2 _ [y] _ [u] Q I2 r1 (.cons r2 .nil) q2))))⟩
theorem pst_set {i : Nat} {x : Str} {pos' : Pos} (hN : X.N.Nodup) (hi : X.N[i]? = some x) (hx : Loc X.env.scope x) (he : PET X e te) (hs : swapsWith e (some (.Name x pos')) pos.line X.env = pure false := by rfl) (hf : X.fn x = true ∨ X.env.scope.names.lookup x = some .local := by first | exact .inl rfl | exact .inr rfl | assumption) :
    PST X (.Assign [.Name x pos'] e pos) (tAsg te (gName i)) := by
  intro pins s σ H D h0 I h
  exact wpAny_Assign_Name (thn (he pins s σ H _ h0 I h) fun v s1 ⟨y, H1, I1, r1, q1⟩ => store_ok I1 hN hi hx r1 (fun s2 I2 => ⟨_, H1, I2, q1⟩) hf) hs
theorem psst_of (h : PS X (.Pass pos) t) : True := trivial
end
end Uv

set_option Elab.async false
set_option linter.all false
set_option maxRecDepth 100000
set_option maxHeartbeats 4000000
namespace Uv
open PySem PySem.Spec L2 Zx
open PyProof.Rows hiding St
/-! ### all but one dict stands -/
structure Dx (s : Addr) (H H' : Hp) : Prop where
  dict : ∃ kvs, H s = some (.dK kvs)
  keep : ∀ a o, a ≠ s → H a = some o → H' a = some o
theorem Dx.refl {s : Addr} {H : Hp} {kvs : List (Key × V)} (h : H s = some (.dK kvs)) : Dx s H H := ⟨⟨kvs, h⟩, fun _ _ _ e => e⟩
theorem Dx.at {s a : Addr} {H H' : Hp} {o : HO} (x : Dx s H H') (e : H a = some o) (n : ∀ kvs, o ≠ .dK kvs) : H' a = some o := by
  obtain ⟨kvs, h⟩ := x.dict
  exact x.keep a o (fun z => by rw [z, h] at e; exact n _ (Option.some.inj e).symm) e
theorem Dx.rd {s a : Addr} {H H' : Hp} {o : HO} (x : Dx s H H') (e : Rd H a o) (n : ∀ kvs, o ≠ .dK kvs) : Rd H' a o := by
  rcases e with e | ⟨u, e⟩
  · exact .inl (x.at e n)
  · exact .inr ⟨u, x.at e fun _ z => by cases z⟩
theorem Dx.kx {s : Addr} {K : PySem.W.Frag} {H H' : Hp} (x : Dx s H H') : Kx K H H' := fun p xs =>
  ⟨fun h => h.imp (fun h => x.rd h fun _ z => by cases z) id, fun h => h.imp (fun h => x.rd h fun _ z => by cases z) id⟩
theorem Dx.tr {s : Addr} {H H1 H2 : Hp} (x : Dx s H H1) (y : Dx s H1 H2) : Dx s H H2 := ⟨x.dict, fun a o n h => y.keep a o n (x.keep a o n h)⟩
/-- further objects -/
theorem Dx.ex {s : Addr} {H H1 H2 : Hp} (x : Dx s H H1) (e : Ex H1 H2) : Dx s H H2 := ⟨x.dict, fun a o n h => e _ _ (x.keep a o n h)⟩
/-- the dict itself -/
theorem Dx.put {s : Addr} {H H1 : Hp} {o : HO} (x : Dx s H H1) : Dx s H (upd H1 s o) := ⟨x.dict, fun a o n h => by rw [upd_ne n]; exact x.keep a o n h⟩
/-- seen from before the dict was made -/
theorem Dx.from {s : Addr} {H0 H H' : Hp} (x : Dx s H H') (n : H0 s = none) (e : Ex H0 H) : Ex H0 H' := fun a o h => x.keep a o (fun z => by rw [z, n] at h; cases h) (e _ _ h)
theorem s_dnew {σ : L2.St} {H : Hp} {Q : VK} (h : ∀ p, H p = none → Q (.ref p) (upd H p (.dK []))) : tDNewK σ H Q := h
/-- a text-keyed dict asked -/
theorem dget_s {H : Hp} {a : Addr} {kvs : List (Key × V)} {n : Str} {o : Option V} (h : H a = some (.dK kvs)) (e : valV kvs (.inr n) = o) : DGet H a (.str n) o := by rw [← e]; exact DGet.k (k := .inr n) h
theorem dput_s {H : Hp} {a : Addr} {kvs kvs' : List (Key × V)} {n : Str} {v : V} (h : H a = some (.dK kvs)) (l : kvs.length < sizeLine) (e : putK kvs (.inr n) v = kvs') : DPut H a (.str n) v (upd H a (.dK kvs')) := by rw [← e]; exact DPut.k (k := .inr n) h l
/-- what follows, far away: its ends as letters -/
theorem s_far {tb : TS} {D : Ends} {σ : L2.St} {H : Hp} (h : ∀ D' : Ends, (∀ σ H, D.nx σ H → D'.nx σ H) → (∀ σ H, D.ct σ H → D'.ct σ H) → (∀ σ H, D.bk σ H → D'.bk σ H) → (∀ v H, D.rt v H → D'.rt v H) → tb D' σ H) : tb D σ H := h D (fun _ _ z => z) (fun _ _ z => z) (fun _ _ z => z) (fun _ _ z => z)
theorem s_ick {c : Prop} [Decidable c] {A B : Prop} (h : if c then A else B) : if c then A else B := h
/-- an if whose first suite is read once, where M holds -/
theorem s_ifM {t : TT} {s1 s2 : TS} {D : Ends} {σ : L2.St} {H : Hp} (M : Prop) (h1 : M → s1 D σ H) (h2 : ∀ P1 : L2.St → Hp → Prop, (M → P1 σ H) → t σ H fun b H1 => if b = true then P1 σ H1 else s2 D σ H1) : tIfS t s1 s2 D σ H := h2 (s1 D) h1
/-! ### terms that give a text of bounded length -/
/-- d: its greatest length -/
class TxE (K : PySem.W.Frag) (σ : L2.St) (te : TE) (d : outParam Nat) : Prop where
  h : d ≤ 1000000 → ∀ (H : Hp) (Q : VK), (∀ z : Str, z.length ≤ d → Q (.str z) H) → te σ H Q
section
variable {K : PySem.W.Frag} {σ : L2.St}
instance (z : Str) : TxE K σ (tC (.str z)) z.length := ⟨fun _ H Q q => q z (Nat.le_refl _)⟩
instance {te tf : TE} {d e : Nat} [h1 : TxE K σ te d] [h2 : TxE K σ tf e] : TxE K σ (tOp (uAdd K) te tf) (d + e) := ⟨fun l H Q q => h1.h (by omega) H _ fun a ha => h2.h (by omega) H _ fun b hb =>
  ⟨by show _ ≤ 16777216; omega, q _ (by
    have e : (a ++ b).length = a.length + b.length := by
      show (a ++ b).cps.size = _
      rw [Str.cps_append, Array.size_append]
      rfl
    omega)⟩⟩
theorem txv {i : Nat} {z : Str} {d : Nat} (h : σ[i]? = some (some (.str z))) (l : z.length ≤ d) : TxE K σ (tVar i) d := ⟨fun _ H Q q => ⟨_, h, q z l⟩⟩
theorem txe_add {te tf : TE} {d e : Nat} (h1 : TxE K σ te d) (h2 : TxE K σ tf e) : TxE K σ (tOp (uAdd K) te tf) (d + e) := inferInstance
theorem txe_c (z : Str) : TxE K σ (tC (.str z)) z.length := inferInstance
/-- a row of such texts -/
class TxA (K : PySem.W.Frag) (σ : L2.St) (ts : TA) (d : outParam Nat) (n : outParam Nat) : Prop where
  h : d ≤ 1000000 → ∀ (H : Hp) (Q : List V → Hp → Prop), (∀ zs : List Str, (∀ z ∈ zs, z.length ≤ d) → zs.length = n → Q (zs.map V.str) H) → ts σ H Q
instance : TxA K σ tNil 0 0 := ⟨fun _ H Q q => q [] (fun z h => by cases h) rfl⟩
instance {te : TE} {ts : TA} {d e n : Nat} [h1 : TxE K σ te d] [h2 : TxA K σ ts e n] : TxA K σ (tCons te ts) (d + e) (n + 1) := ⟨fun l H Q q => h1.h (by omega) H _ fun a ha => h2.h (by omega) H _ fun zs hz hn => q (a :: zs) (fun z hm => by
  rcases List.mem_cons.mp hm with rfl | hm
  · omega
  · have := hz z hm; omega) (by rw [List.length_cons, hn])⟩
theorem txa_nil : TxA K σ tNil 0 0 := inferInstance
theorem txa_cons {te : TE} {ts : TA} {d e n : Nat} (h1 : TxE K σ te d) (h2 : TxA K σ ts e n) : TxA K σ (tCons te ts) (d + e) (n + 1) := inferInstance
/-- a written list of such texts -/
theorem s_txl {ts : TA} {d n : Nat} [h : TxA K σ ts d n] {H : Hp} {Q : VK} (hd : d ≤ 1000000) (hn : n ≤ 1000) (q : ∀ p (zs : List Str) H', H p = none → Ex H H' → H' p = some (.lst (zs.map V.str)) → (∀ z ∈ zs, z.length ≤ d) → zs.length = n → Q (.ref p) H') : tLst ts σ H Q :=
  h.h hd H _ fun zs hz hl => ⟨by rw [List.length_map, hl]; exact Nat.le_trans hn (by decide), fun p np => q p zs _ np (exN np) upd_same hz hl⟩
theorem s_txl' {ts : TA} {d n : Nat} {H : Hp} {Q : VK} (h : TxA K σ ts d n) (hd : d ≤ 1000000) (hn : n ≤ 1000) (q : ∀ p (zs : List Str) H', H p = none → Ex H H' → H' p = some (.lst (zs.map V.str)) → (∀ z ∈ zs, z.length ≤ d) → zs.length = n → Q (.ref p) H') : tLst ts σ H Q := s_txl (h := h) hd hn q
/-- [expression for name in list of texts] -/
theorem s_txc {p : Addr} {zs : List Str} {i : Nat} {te : TE} {vs : List Nat} {Q : VK} {H : Hp} {d : Nat} (hp : SqL K H p (zs.map V.str)) (hl : zs.length ≤ 100000) (hd : d ≤ 1000000) (hw : ∀ v : V, wipe ((wipe σ vs).set i (some v)) vs = wipe σ vs) (ht : ∀ z ∈ zs, TxE K ((wipe σ vs).set i (some (.str z))) te d)
    (q : ∀ r (ys : List Str) H', H r = none → Ex H H' → H' r = some (.lst (ys.map V.str)) → (∀ y ∈ ys, y.length ≤ d) → ys.length = zs.length → Q (.ref r) H') : ∃ a, V.ref p = V.ref a ∧ (∃ xs, SqL K H a xs) ∧ LcR (Itl K a) (gName i) tYes te vs Q σ H := by
  refine lcL hp (fun D i acc H' => Ex H H' ∧ ∃ ys : List Str, H' D = some (.lst (ys.map V.str)) ∧ (∀ y ∈ ys, y.length ≤ d) ∧ ys.length = i) (fun D n => ⟨exN n, [], upd_same, (fun y h => by cases h), rfl⟩) (fun D i acc H' h => h.1) (fun D acc H' n ⟨e, ys, h1, h2, h3⟩ => q D ys H' n e h1 h2 (by rw [h3, List.length_map])) ?_
  rintro D j x acc H' nD hx ⟨e, ys, h1, h2, h3⟩
  obtain ⟨z, hz, rfl⟩ : ∃ z, z ∈ zs ∧ x = .str z := by
    obtain ⟨z, hm, e⟩ := List.mem_map.mp (List.mem_of_getElem? hx)
    exact ⟨z, hm, e.symm⟩
  have hj : j < (zs.map V.str).length := (List.getElem?_eq_some_iff.mp hx).1
  rw [List.length_map] at hj
  refine ⟨hw _, ?_⟩
  refine s_yes (s_iT ?_)
  exact (ht z hz).h hd H' _ fun y hy => ⟨_, h1, by rw [List.length_map, h3]; show _ < 16777216; omega, [], ex_put nD e, ys ++ [y], by rw [List.map_append]; exact upd_same, fun w hw => by
    rcases List.mem_append.mp hw with hw | hw
    · exact h2 w hw
    · rw [List.mem_singleton.mp hw]; exact hy, by rw [List.length_append, h3]; rfl⟩
/-- [expression for name in list of texts], the texts known -/
theorem s_mapc {p : Addr} {zs : List Str} {g : Str → Str} {i : Nat} {te : TE} {vs : List Nat} {Q : VK} {H : Hp} (hp : SqL K H p (zs.map V.str)) (hl : zs.length ≤ 100000) (hw : ∀ v : V, wipe ((wipe σ vs).set i (some v)) vs = wipe σ vs) (ht : ∀ z ∈ zs, ∀ (H : Hp) (Q : VK), Q (.str (g z)) H → te ((wipe σ vs).set i (some (.str z))) H Q)
    (q : ∀ r H', H r = none → Ex H H' → H' r = some (.lst ((zs.map g).map V.str)) → Q (.ref r) H') : ∃ a, V.ref p = V.ref a ∧ (∃ xs, SqL K H a xs) ∧ LcR (Itl K a) (gName i) tYes te vs Q σ H := by
  refine lcL hp (fun D j acc H' => Ex H H' ∧ H' D = some (.lst (((zs.take j).map g).map V.str))) (fun D n => ⟨exN n, upd_same⟩) (fun D i acc H' h => h.1) (fun D acc H' n ⟨e, h1⟩ => q D H' n e (by rw [List.length_map, List.take_length] at h1; exact h1)) ?_
  rintro D j x acc H' nD hx ⟨e, h1⟩
  obtain ⟨z, hz, rfl⟩ : ∃ z, zs[j]? = some z ∧ x = .str z := by
    rw [List.getElem?_map] at hx
    cases q : zs[j]? with
    | none => rw [q] at hx; cases hx
    | some b => rw [q] at hx; cases hx; exact ⟨b, rfl, rfl⟩
  have hj : j < zs.length := (List.getElem?_eq_some_iff.mp hz).1
  refine ⟨hw _, s_yes (s_iT ?_)⟩
  exact ht z (List.mem_of_getElem? hz) H' _ ⟨_, h1, by rw [List.length_map, List.length_map, List.length_take]; show _ < 16777216; omega, [], ex_put nD e, by rw [List.take_add_one, hz, List.map_append, List.map_append]; exact upd_same⟩
/-- [a def that draws a text, for name in list of texts] -/
theorem s_drawc {b p : Addr} {zs : List Str} {i d : Nat} {te : TE} {vs : List Nat} {Q : VK} {H : Hp} (hb : BagAt H b) (hp : SqL K H p (zs.map V.str)) (hl : zs.length ≤ 100000) (hw : ∀ v : V, wipe ((wipe σ vs).set i (some v)) vs = wipe σ vs)
    (ht : ∀ z ∈ zs, ∀ (H : Hp) (Q : VK), BagAt H b → (∀ (y : Str) H', y.length ≤ d → Kb b H H' → Q (.str y) H') → te ((wipe σ vs).set i (some (.str z))) H Q)
    (q : ∀ r (ys : List Str) H', Kb b H H' → H' r = some (.lst (ys.map V.str)) → (∀ y ∈ ys, y.length ≤ d) → ys.length = zs.length → Q (.ref r) H') : ∃ a, V.ref p = V.ref a ∧ (∃ xs, SqL K H a xs) ∧ LcR (Itl K a) (gName i) tYes te vs Q σ H := by
  refine ⟨p, rfl, ⟨_, hp⟩, lc_d (zs.map V.str).length (fun D j acc H' => Kb b H H' ∧ ∃ ys : List Str, H' D = some (.lst (ys.map V.str)) ∧ (∀ y ∈ ys, y.length ≤ d) ∧ ys.length = j) (fun D n => ⟨(exN n).kb hb, [], upd_same, (fun y h => by cases h), rfl⟩) (fun D acc H' n h => ⟨_, h.1.l hp, Nat.le_refl _⟩) (fun D i acc H' n h z => ⟨_, _, h.1.l hp, List.getElem?_eq_getElem z⟩) (fun D acc H' n ⟨e, ys, h1, h2, h3⟩ => q D ys H' e h1 h2 (by rw [h3, List.length_map])) fun D j x acc H2 H' nD z ⟨e, ys, h1, h2, h3⟩ y => ?_⟩
  obtain ⟨rfl, y⟩ := y
  have hx := y _ (e.l hp)
  obtain ⟨z', hz, rfl⟩ : ∃ z, zs[j]? = some z ∧ x = .str z := by
    rw [List.getElem?_map] at hx
    cases q : zs[j]? with
    | none => rw [q] at hx; cases hx
    | some b => rw [q] at hx; cases hx; exact ⟨b, rfl, rfl⟩
  have hj : j < zs.length := (List.getElem?_eq_some_iff.mp hz).1
  refine ⟨hw _, s_yes (s_iT ?_)⟩
  exact ht z' (List.mem_of_getElem? hz) H' _ e.b1 fun w H3 lw kw => ⟨_, kw.at h1 (fun _ z => by cases z), by rw [List.length_map, h3]; show _ < 16777216; omega, [], (e.tr kw).put nD _, ys ++ [w], by rw [List.map_append]; exact upd_same, fun u hu => by
    rcases List.mem_append.mp hu with hu | hu
    · exact h2 u hu
    · rw [List.mem_singleton.mp hu]; exact lw, by rw [List.length_append, h3]; rfl⟩
end
end Uv

set_option Elab.async false
set_option linter.all false
set_option maxRecDepth 100000
set_option maxHeartbeats 4000000
namespace Hk
open PySem PySem.W PySem.Calls PyProof.Rows He He5
/-! ### what is seen behind the top: Bools of the written part, defs, methods of own exceptions -/
abbrev FnXW : Type := Option (PySem.Str × PySem.Str × Arguments × FuncBody × Scope × Addr × List PySem.Str × Addr)
def fnXa (K : Frag) (a : Addr) : FnXW := match K.lookup a with
  | some ⟨_, _, .func fd, _⟩ => some (fd.name, fd.qualname, fd.params, fd.body, fd.scope, fd.globals, fd.closure.map (·.1), fd.builtins)
  | _ => none
/-- an __init__ that says super() -/
structure XI where
  x : PySem.Str
  params : Arguments
  body : List Stmt
  scope : Scope
def XI.val (d : XI) : FnXW := some ("__init__", d.x ++ ".__init__", d.params, .stmts d.body, d.scope, mainGlobals, ["__class__"], builtinsNs)
def XI.at_ (d : XI) (K : Frag) : Addr := ma K (ga K d.x) "__init__"
abbrev AlO : Type := Bool × List He.FnW × List FnXW
def obsO (fb : List (Frag → Bool)) (fn : List DefA) (xs : List XI) (K : Frag) : AlO := ((fb.all fun f => f K) && fn.all fun d => d.ok K, fn.map (fun d => fnA K (d.at_ K)), xs.map fun d => fnXa K (d.at_ K))
def valO (fn : List DefA) (xs : List XI) : AlO := (true, fn.map DefA.val, xs.map XI.val)
def SaysO (fb : List (Frag → Bool)) (fn : List DefA) (xs : List XI) (K : Frag) : Prop := obsO fb fn xs K = valO fn xs
def obsOG (n : Nat) (fb : List (Frag → Bool)) (fn : List DefA) (xs : List XI) (g : Addr → Option Obj) : AlO := obsO fb fn xs (frG g (asA g n))
def hookO (n : Nat) (fb : List (Frag → Bool)) (fn : List DefA) (xs : List XI) : PySem.W.Hook where
  α := AlO
  obs := fun s => obsOG n fb fn xs s.heap.get?
  val := fun _ => valO fn xs
  says := fun _ h => ∃ K : Frag, K.In h ∧ SaysO fb fn xs K
  of := fun _ _ e => ⟨_, frG_in, e⟩
  keeps := fun _ _ _ ⟨K, hK, c⟩ k => ⟨K, Frag.In.keeps hK k, c⟩
theorem obsOG_eq {n : Nat} {fb : List (Frag → Bool)} {fn : List DefA} {xs : List XI} {g : Addr → Option Obj} {s : Shared} (h : ∀ a, g a = s.heap.get? a) : obsOG n fb fn xs g = (hookO n fb fn xs).obs s := by
  have e : g = s.heap.get? := funext h
  rw [e] <;> rfl
section
variable {fb : List (Frag → Bool)} {fn : List DefA} {xs : List XI} {K : Frag}
theorem SaysO.fact (c : SaysO fb fn xs K) (i : Nat) {f : Frag → Bool} (h : fb[i]? = some f := by rfl) : f K = true := by
  have c1 := (ba (show ((fb.all fun f => f K) && fn.all fun d => d.ok K) = true from congrArg (fun z : AlO => z.1) c)).1
  exact List.all_eq_true.mp c1 f (List.mem_of_getElem? h)
theorem SaysO.def_ (c : SaysO fb fn xs K) (i : Nat) {d : DefA} (h : fn[i]? = some d := by rfl) : ∃ fd, L2.FunD K d.name d.qual d.params d.body d.scope (d.dvs K) (d.kws K) (d.at_ K) fd := by
  have c2 := (ba (show ((fb.all fun f => f K) && fn.all fun d => d.ok K) = true from congrArg (fun z : AlO => z.1) c)).2
  have e : fn.map (fun d => fnA K (d.at_ K)) = fn.map DefA.val := congrArg (fun z : AlO => z.2.1) c
  have e2 : (fn.map fun d => fnA K (d.at_ K))[i]? = (fn.map DefA.val)[i]? := by rw [e]
  rw [List.getElem?_map, List.getElem?_map, h] at e2
  exact DefA.funD (Option.some.inj e2) (List.all_eq_true.mp c2 d (List.mem_of_getElem? h))
theorem SaysO.xi (c : SaysO fb fn xs K) (i : Nat) {d : XI} (h : xs[i]? = some d := by rfl) : fnXa K (d.at_ K) = d.val := by
  have e : xs.map (fun d => fnXa K (d.at_ K)) = xs.map XI.val := congrArg (fun z : AlO => z.2.2) c
  have e2 : (xs.map fun d => fnXa K (d.at_ K))[i]? = (xs.map XI.val)[i]? := by rw [e]
  rw [List.getElem?_map, List.getElem?_map, h] at e2
  exact Option.some.inj e2
end
/-! ### an own class of exceptions over ValueError (or over an own one of these) -/
def xcls (K : Frag) (C : Addr) : Bool := match K.lookup C with
  | some ⟨.type "type", _, .cls cd, sl⟩ => (match cd.mro, sl.toList with
    | .ref C' :: bm, [_, _, _, _, some (.builtin n), _] => C' == C && n == "ValueError.__new__" && !cd.hasDel && cd.hasDict && PySem.HandSPX.refsVE bm
    | _, _ => false)
  | _ => false
theorem xcls_ok {K : Frag} {C : Addr} (q : xcls K C = true) : ∃ nm q N bs bm sn sub ab col dd k0 k1 k2 k3 k5, K.lookup C = some (excClassObj nm q C N bs bm true sn sub ab col dd k0 k1 k2 k3 k5 "ValueError.__new__") ∧ PySem.HandSPX.refsVE bm = true := by
  unfold xcls at q
  split at q
  · rename_i dd cd sl ho
    split at q
    · rename_i C' bm k0 k1 k2 k3 n k5 hm hs
      simp only [Bool.and_eq_true, beq_iff_eq, Bool.not_eq_true'] at q
      obtain ⟨⟨⟨⟨rfl, rfl⟩, hdel⟩, hdi⟩, ht⟩ := q
      obtain ⟨nm, bs, mro, ns, qn, hd, sn, sub, ab, col, del⟩ := cd
      dsimp only at hm hdel hdi
      subst hm hdel hdi
      have hsl : sl = #[k0, k1, k2, k3, some (.builtin "ValueError.__new__"), k5] := by
        obtain ⟨l⟩ := sl
        simp only at hs
        rw [hs]
      subst hsl
      exact ⟨nm, qn, ns, bs, bm, sn, sub, ab, col, dd, k0, k1, k2, k3, k5, ho, ht⟩
    · cases q
  · cases q
/-- its __init__: code, file, cell -/
def xfun (F : PySem.Str) (K : Frag) (C f : Addr) (qual : PySem.Str) : Bool := match K.lookup f with
  | some ⟨_, _, .func fd, _⟩ => (match fd.code, fd.closure, fd.defaults with
    | .ref cda, [(_, cc)], .none => codeIn K (.ref cda) qual && ((match K.lookup cda with
        | some ⟨_, _, .fields vs, _⟩ => (match (vs[2]? : Option Value) with
          | some (Value.str fi _) => F == fi
          | _ => false)
        | _ => false) && (match K.lookup cc with
        | some ⟨_, _, .cell (some (.ref C')), _⟩ => C' == C
        | _ => false))
    | _, _, _ => false)
  | _ => false
def xB1 (x : PySem.Str) (fs : List PySem.Str) (K : Frag) : Bool :=
  eqO (nsIn K mainGlobals x) (some (some (.ref (ga K x)))) && (xcls K (ga K x) && (eqO (findIn K (.ref (ga K x)) "__setattr__") (some (some (.builtin "object.__setattr__"))) && (eqO (findIn K (.ref (ga K x)) "__getattribute__") (some (some (.builtin "BaseException.__getattribute__"))) &&
  (eqO (findIn K (.ref (ga K x)) "__getattr__") (some none) && (fs.all (fun f => eqO (findIn K (.ref (ga K x)) f) (some none)) && (keepIn K (.ref (ga K x)) && (decide (subIn K (.ref (ga K x)) (.type "BaseException") = some true) && (decide (subIn K (.ref (ga K x)) (.type "ValueError") = some true) &&
  (decide (typeIn K (.ref (ga K x)) = some (.type "type")) && (hasDictIn K (ga K x) && decide (mroIn K (ga K x) (.ref (ga K x)) = some true)))))))))))
def xB2 (F x : PySem.Str) (K : Frag) : Bool :=
  eqO (ks_superIn K (ga K x) (ga K x) "__init__") (some (some (.builtin "ValueError.__init__"))) && (eqO (nsIn K cStatics "thirdparty.any") (some none) && (eqO (nsIn K mainGlobals "super") (some none) && (eqO (findIn K (.ref (ga K x)) "__init__") (some (some (.ref (ma K (ga K x) "__init__")))) &&
  (decide (typeIn K (.ref (ma K (ga K x) "__init__")) = some (.type "function")) && xfun F K (ga K x) (ma K (ga K x) "__init__") (x ++ ".__init__")))))
theorem x_ok {P : Program} {K : Frag} {h : Heap} {mg : PySem.Str → Option Value} {F x : PySem.Str} {fs : List PySem.Str} (X : K.In h) (G : h.Ns mainGlobals mg) (b1 : xB1 x fs K = true) (b2 : xB2 F x K = true) {d : XI} (e : fnXa K (d.at_ K) = d.val) (dx : d.x = x)
    (hF : P.main.file = F) {msg : PySem.Str} {k : Nat} {p0 p1 p2 p3 p4 p5 : Pos} {ss : List Stmt} {pa : Arg} (hb : d.body = Xc.sup msg k p0 p1 p2 p3 p4 p5 :: ss) (st : Xc.Stos ss fs) (hpa : (d.params.posonlyargs ++ d.params.args).head? = some pa) (hps : pa.arg = "self")
    (bnd : ∀ (kV doc pm : Value) (an : Option Addr) (cdv ct : Value) (cc : Addr) (us : List Value), us.length = fs.length + 1 → bindArgs (ksFn "__init__" (x ++ ".__init__") d.params d.body d.scope .none kV doc pm an cdv ct cc) ⟨us, []⟩ = pure ((("self" : PySem.Str) :: fs).zip us))
    (scp : d.scope.kind = .function ∧ d.scope.isCoroutine = false ∧ d.scope.isGenerator = false ∧ (∀ y ∈ d.scope.names, y.2 ≠ .cell) ∧ d.scope.names.lookup ("self" : PySem.Str) = some .local ∧ (∀ f ∈ fs, d.scope.names.lookup f = some .local ∧ (f == ("__debug__" : PySem.Str)) = false) ∧
      d.scope.names.lookup ("super" : PySem.Str) = some .globalImplicit ∧ d.scope.names.lookup ("__class__" : PySem.Str) = some .free)
    (ln : (p2.endLine == p4.line) = true) (nd : ("self" :: fs : List PySem.Str).Nodup) (fl : (P.main.scope.names.lookup ("super" : PySem.Str)).isSome = false) : Xc.Txt P K mg x fs (ga K x) := by
  obtain ⟨c1, b1⟩ := ba b1
  obtain ⟨c2, b1⟩ := ba b1
  obtain ⟨c3, b1⟩ := ba b1
  obtain ⟨c4, b1⟩ := ba b1
  obtain ⟨c5, b1⟩ := ba b1
  obtain ⟨c6, b1⟩ := ba b1
  obtain ⟨c7, b1⟩ := ba b1
  obtain ⟨c8, b1⟩ := ba b1
  obtain ⟨c9, b1⟩ := ba b1
  obtain ⟨c10, b1⟩ := ba b1
  obtain ⟨c11, c12⟩ := ba b1
  obtain ⟨s1, b2⟩ := ba b2
  obtain ⟨s2, b2⟩ := ba b2
  obtain ⟨s3, b2⟩ := ba b2
  obtain ⟨s4, b2⟩ := ba b2
  obtain ⟨s5, s6⟩ := ba b2
  subst dx
  refine { gC := mg_of X G (eqO_ok c1), cls := xcls_ok c2, sa := eqO_ok c3, ga := eqO_ok c4, gg := eqO_ok c5, noF := fun f hf => eqO_ok (List.all_eq_true.mp c6 f hf), kC := c7, exC := of_decide_eq_true c8, veC := of_decide_eq_true c9, tyC := of_decide_eq_true c10, hdC := c11, self := of_decide_eq_true c12, up := eqO_ok s1, opq := eqO_ok s2, sup := mg_none_of X G (eqO_ok s3), nd := nd, file := fl, fn := ?_ }
  have e2 : fnXa K (ma K (ga K d.x) "__init__") = d.val := e
  unfold xfun at s6
  unfold fnXa at e2
  cases q : K.lookup (ma K (ga K d.x) "__init__") with
  | none => rw [q] at s6; cases s6
  | some o =>
    obtain ⟨oc, od, dt, osl⟩ := o
    rw [q] at s6 e2
    cases dt with
    | func fd =>
      obtain ⟨n1, n2, n3, n4, n5, n6, n7, n8, n9, n10, n11, n12, n13, n14, n15⟩ := fd
      have e3 : (some (n1, n2, n3, n4, n5, n6, n7.map (·.1), n15) : FnXW) = some (("__init__" : PySem.Str), d.x ++ ".__init__", d.params, FuncBody.stmts d.body, d.scope, mainGlobals, [("__class__" : PySem.Str)], builtinsNs) := e2
      simp only [Option.some.injEq, Prod.mk.injEq] at e3
      obtain ⟨h1, h2, h3, h4, h5, h6, h7, h8⟩ := e3
      dsimp only at s6
      split at s6
      · rename_i cda nm cc
        have h7' : nm = "__class__" := by simpa using h7
        subst h1 h2 h3 h4 h5 h6 h8 h7'
        obtain ⟨t1, t2⟩ := ba s6
        obtain ⟨t2, t3⟩ := ba t2
        refine ⟨ma K (ga K d.x) "__init__", cda, cc, oc, od, osl, .none, n9, n10, n11, n12, n14, msg, k, p0, p1, p2, p3, p4, p5, ss, d.params, d.scope, pa, eqO_ok s4, of_decide_eq_true s5, st, ?_, hpa, hps, ?_, scp, t1, ln, ?_, ?_⟩
        · rw [q, ← hb]
        · intro us hu
          rw [← hb]
          exact bnd n9 n10 n11 n12 (.ref cda) n14 cc us hu
        · split at t2
          · rename_i vs sl2 hvs
            split at t2
            · rename_i file tf hfi
              exact ⟨_, _, vs, _, file, tf, by assumption, hfi, by rw [hF]; exact t2⟩
            · cases t2
          · cases t2
        · split at t3
          · rename_i C' sl3 hcc
            have : C' = ga K d.x := beq_iff_eq.mp t3
            subst this
            exact ⟨_, _, _, by assumption⟩
          · cases t3
      · cases s6
    | _ => cases s6
/-- what isinstance looks at -/
def excB (x : PySem.Str) (K : Frag) : Bool :=
  eqO (findIn K (.ref (ga K x)) "__getattribute__") (some (some (.builtin "BaseException.__getattribute__"))) && (eqO (findIn K (.ref (ga K x)) "__getattr__") (some none) && (decide (subIn K (.ref (ga K x)) (.type "BaseException") = some true) && (hasDictIn K (ga K x) &&
  (eqO (findIn K (.ref (ga K x)) "__class__") (some (some (.builtin "object.__class__"))) && (eqO (specialIn K (.builtin "object.__class__") "__get__") (some (some (.builtin "getset_descriptor.__get__"))) && (decide (takesIn K (.builtin "object.__class__") = some true) && decide (mroIn K (ga K x) (.type "object") = some true)))))))
theorem excB_ok {K : Frag} {x : PySem.Str} (h : excB x K = true) : L2.ExcC K (ga K x) := by
  obtain ⟨h1, h⟩ := ba h
  obtain ⟨h2, h⟩ := ba h
  obtain ⟨h3, h⟩ := ba h
  obtain ⟨h4, h⟩ := ba h
  obtain ⟨h5, h⟩ := ba h
  obtain ⟨h6, h⟩ := ba h
  obtain ⟨h7, h8⟩ := ba h
  exact ⟨eqO_ok h1, eqO_ok h2, of_decide_eq_true h3, h4, eqO_ok h5, eqO_ok h6, of_decide_eq_true h7, of_decide_eq_true h8⟩
def kitB' (x : PySem.Str) (y : Frag → Value) (b : Bool) (K : Frag) : Bool := decide (kitOne K (.ref (ga K x)) (y K) = some b)
def gloV (x : PySem.Str) (v : Value) (K : Frag) : Bool := eqO (nsIn K mainGlobals x) (some (some v))
theorem gloV_ok {K : Frag} {h : Heap} {mg : PySem.Str → Option Value} (X : K.In h) (G : h.Ns mainGlobals mg) {x : PySem.Str} {v : Value} (c : gloV x v K = true) : mg x = some v := mg_of X G (eqO_ok c)
def fa (f : Fa) (K : Frag) : Bool := f.ok K
/-- a tuple of the text: x stands for it, its items are vs -/
def tupB (x : PySem.Str) (vs : List L2.V) (K : Frag) : Bool := match K.lookup (ga K x) with
  | some ⟨c, _, .seq its _, _⟩ => decide (c = .type "tuple") && (decide (its.size ≤ sizeLine) && relAll vs its.toList)
  | _ => false
theorem tupB_ok {K : Frag} {x : PySem.Str} {vs : List L2.V} (h : tupB x vs K = true) (H : L2.Hp) : L2.SqT K H (ga K x) vs := by
  unfold tupB at h
  cases q : K.lookup (ga K x) with
  | none => rw [q] at h; cases h
  | some o =>
    obtain ⟨c, dd, dt, sl⟩ := o
    rw [q] at h
    cases dt with
    | seq its n =>
      have h' : (decide (c = .type "tuple") && (decide (its.size ≤ sizeLine) && relAll vs its.toList)) = true := h
      obtain ⟨h1, h2⟩ := ba h'
      obtain ⟨h2, h3⟩ := ba h2
      exact .inr ⟨_, its, n, q, of_decide_eq_true h1, rfl, of_decide_eq_true h2, relAll_ok h3⟩
    | _ => cases h
end Hk

set_option Elab.async false
set_option linter.all false
set_option maxRecDepth 100000
set_option maxHeartbeats 4000000
namespace Uv
open PySem PySem.Spec L2
open PyProof.Rows hiding St
/-! ### the law called behind the top, no repr running -/
def scrH (K : PySem.W.Frag) (a : Addr) (o : Obj) (xs : List V) : Hp := fun b => if ((K.lookup a).isNone && decide (b = a)) = true then some (.frz o (.lst xs)) else none
section
variable {P : Program} {w : World} {K : PySem.W.Frag} {mg mb : Str → Option Value} {a : Addr} {o : Obj} {xs : List V} {h : Heap}
theorem scr_hit {b : Addr} {u : HO} (e : scrH K a o xs b = some u) : K.lookup a = none ∧ b = a ∧ u = .frz o (.lst xs) := by
  unfold scrH at e
  split at e
  · rename_i c
    rw [Bool.and_eq_true, decide_eq_true_eq, Option.isNone_iff_eq_none] at c
    exact ⟨c.1, c.2, (Option.some.inj e).symm⟩
  · cases e
theorem scr_off {b : Addr} (n : ¬ (K.lookup a = none ∧ b = a)) : scrH K a o xs b = none := by
  cases q : scrH K a o xs b with
  | none => rfl
  | some u => exact absurd ⟨(scr_hit q).1, (scr_hit q).2.1⟩ n
theorem scr_here (n : K.lookup a = none) : scrH K a o xs a = some (.frz o (.lst xs)) := by
  unfold scrH
  rw [if_pos]
  rw [n]
  simp
theorem scr_K {b : Addr} {q : Obj} (e : K.lookup b = some q) : scrH K a o xs b = none := scr_off fun ⟨n, z⟩ => by
  rw [z, n] at e
  cases e
theorem scr_ns (ha : h.get? a = some o) (nd : ∀ es ep, o.data ≠ .dict es ep) {b : Addr} {m : Str → Option Value} (N : h.Ns b m) : (hidT h (scrH K a o xs)).Ns b m := by
  obtain ⟨q, es, ep, e, d, r⟩ := N
  refine ⟨q, es, ep, hidT_get e (scr_off fun ⟨_, z⟩ => ?_), d, r⟩
  rw [z, ha] at e
  rw [← Option.some.inj e] at d
  exact nd _ _ d
end
theorem law_g {P : Program} {w : World} {K : PySem.W.Frag} {mg mb : Str → Option Value} {k : Nat} {fa a : Addr} {fd : FuncData} {x : Str} {sp : Sp} {s : Shared} {vs : List Value} {ns : List Int}
    (KX : K.In s.heap) (hns : s.heap.Ns mainGlobals mg) (hb : s.heap.Ns builtinsNs mb) (hbb : ∀ x : Str, x ≠ "__name__" → mb x = bootBuiltins x) (hlim : s.heap.NoLimit) (hg : s.gens = #[])
    (ha : s.heap.get? a = some { cls := .type "list", data := .seq vs.toArray }) (hi : IntsAre vs ns) (hl : ns.length ≤ sizeLine) (hr : Room k callerA)
    (F : ∀ base : Heap, K.In base → base.Ns mainGlobals mg → FnG P w K mg base k fa fd [x] sp) (hbind : ∀ (s : Shared) (u : Value), BindsTo s fd ⟨[u], []⟩ [(x, u)])
    (hsp : ∀ H : Hp, SqL K H a (ns.map V.int) → sp [.ref a] H (fun v _ => v = .bl true) E0) :
    codeAny (model P w) callerA (.call (.ref fa) ⟨[.ref a], []⟩) (fun r s' => r = .ok (.ret (.bool true)) ∧ OldK s.heap s'.heap ∧ s'.os = s.os ∧ AllBare s'.gens) s := by
  have rv : Vals (ns.map V.int) vs := vals_ints hi
  have nd : ∀ es ep, ({ cls := .type "list", data := .seq vs.toArray } : Obj).data ≠ .dict es ep := fun _ _ z => by
    have z' : Data.seq vs.toArray _ = Data.dict _ _ := z
    cases z'
  have lenN : (ns.map V.int).length ≤ sizeLine := by rw [List.length_map]; exact hl
  obtain ⟨H, hH⟩ : ∃ H, H = scrH K a { cls := .type "list", data := .seq vs.toArray } (ns.map V.int) := ⟨_, rfl⟩
  have N' : ∀ {b : Addr} {m : Str → Option Value}, s.heap.Ns b m → (hidT s.heap H).Ns b m := fun z => by rw [hH]; exact scr_ns ha nd z
  have kin : K.In (hidT s.heap H) := fun b q e => hidT_get (KX b q e) (by rw [hH]; exact scr_K e)
  have hok : HOk P w H s.heap := fun b u e => by
    rw [hH] at e
    obtain ⟨_, rfl, rfl⟩ := scr_hit e
    exact ⟨ha, lenN, vs, _, rv, ha⟩
  have sq : SqL K H a (ns.map V.int) := by
    cases q : K.lookup a with
    | none => exact .inl (.inr ⟨_, by rw [hH]; exact scr_here q⟩)
    | some ob =>
      have e := KX a ob q
      rw [ha] at e
      cases e
      exact .inr ⟨_, vs.toArray, _, q, rfl, rfl, rfl, by rw [List.size_toArray, hi.length]; exact hl, by simpa using rv⟩
  have M : Mod K mg (hidT s.heap H) := ⟨kin, N' hns, ⟨mb, N' hb, hbb⟩, by
    obtain ⟨mc, h1, h2⟩ := hlim
    exact ⟨mc, N' h1, h2⟩⟩
  have e0 : Env0 P w K mg (hidT s.heap H) callerA [] s H := { frames := rfl, mod := M, bs := fun b q e => of_hidT e, bsz := Nat.le_of_eq (hidT_size _ _), funs := trivial, frf := (fun b hb => nomatch hb), hok := hok, bare := .of_eq hg }
  refine codeAny_mono ((F _ kin (N' hns)).run callerA [] s H ⟨[.ref a], []⟩ [.ref a] [.ref a] _ _ hr rfl e0 (hbind s (.ref a)) (.cons rfl .nil) (hsp H sq)) fun r s' z => ?_
  match r, z with
  | .ok (.ret u), z =>
    obtain ⟨v, H', os, bare, un, ok', rv', q⟩ := z
    have q' : v = .bl true := q
    subst q'
    obtain rfl : u = Value.bool true := rv'
    refine ⟨rfl, OldK.of_keep fun b ob e => ?_, os, bare⟩
    cases q : H b with
    | none => exact un.keep b ob e q (fun z => nomatch z) (fun z => nomatch z)
    | some u =>
      have q2 := q
      rw [hH] at q2
      obtain ⟨_, rfl, rfl⟩ := scr_hit q2
      have h2 := ok' _ _ (un.frzs _ _ _ q)
      rw [ha] at e
      cases e
      exact h2.1
  | .ok .next, z => exact z.elim
  | .ok .brk, z => exact z.elim
  | .ok .cont, z => exact z.elim
  | .error e, z =>
    obtain ⟨_, _, _, _, _, _, _, _, _, _, _, _, zz⟩ := z
    exact zz.elim
/-- what a row asks behind its top -/
theorem walk_g {l : PySem.W.OpenLaw} {n k : Nat} {q : Program} {loose : List Str} {XP : (Str → Option Value) → Heap → Prop} {YP : World → Heap → Prop} {d : DefRec} {x : Str}
    (hn : l.most = some n) (hn2 : n ≤ sizeLine) (hdf : d.params.defaults = []) (hr : Room k callerA)
    (F : ∀ (w : World) (mg : Str → Option Value) (fa : Addr) (h : Heap), YP w h → h.Ns mainGlobals mg → mg d.name = some (.ref fa) →
      ∃ (K : PySem.W.Frag) (fd : FuncData) (sp : Sp), K.In h ∧ (∀ (s : Shared) (u : Value), BindsTo s fd ⟨[u], []⟩ [(x, u)]) ∧
        (∀ (H : Hp) (a : Addr) (ns : List Int), ns.length ≤ n → (∀ z ∈ ns, Builtin.Int.intBits z ≤ 1048576) → SqL K H a (ns.map V.int) → sp [.ref a] H (fun v _ => v = .bl true) E0) ∧
        ∀ base : Heap, K.In base → base.Ns mainGlobals mg → FnG l.prog w K mg base k fa fd [x] sp) :
    PySem.W.WalkO q loose XP YP l.row.toRowW d [] (fun f vs => PySem.call f vs) := by
  refine Att.attach_callB hn hdf fun w s₀ s mg mb fa o pm cd doc a vs ns G Y ho hd hcd hmg hobj hints hlen hbits hg => ?_
  obtain ⟨K, fd, sp, KX, hb, hsp, hF⟩ := F w mg fa _ Y G.T.g hmg
  exact law_g KX G.T.g G.T.b G.T.builtins G.T.nolimit hg hobj hints (Nat.le_trans hlen hn2) hr hF hb fun H hS => hsp H a ns hlen hbits hS
/-- a def by its name -/
theorem cal_mk {P : Program} {w : World} {K : PySem.W.Frag} {mg : Str → Option Value} {base : Heap} {k : Nat} {x : Str} {f : Addr} {fd : FuncData} {ps : List Str} {dvs : List V} {sp : Sp} (F : FnG P w K mg base k f fd ps sp) (hm : mg x = some (.ref f)) (hk : PySem.W.keepIn K (.ref f) = true)
    {ds : List Value} (hb : Binds K fd ps ds) (hd : Vals dvs ds) : Cal P w K mg base k x ps dvs sp := ⟨f, fd, ds, F, hm, hk, hb, hd⟩
theorem bits_log {z : Int} {n : Nat} (h : Builtin.Int.intBits z ≤ n) : z.natAbs.log2 ≤ n := by
  unfold Builtin.Int.intBits at h
  split at h
  · rename_i e
    have : z = 0 := by simpa using e
    subst this
    simp
  · omega
end Uv

set_option Elab.async false
set_option linter.all false
set_option maxRecDepth 100000
set_option maxHeartbeats 4000000
namespace Lw
open PySem PySem.Spec L2 Uv
open PyProof.Rows hiding St
def top (i : Nat) : Stmt := PySem.Challenge.pw_ellwarden_k02_product_texts.main.body.getD i (.Pass ⟨0, 0, 0, 0⟩)
abbrev s_TooHigh_init : Stmt := inClass (top 2) 0
abbrev N_TooHigh_init : List Str := ["self", "dimension"]
abbrev P_TooHigh_init : List Str := ["self", "dimension"]
abbrev s_Unknown_init : Stmt := inClass (top 3) 0
abbrev N_Unknown_init : List Str := ["self", "name"]
abbrev P_Unknown_init : List Str := ["self", "name"]
abbrev s_is_integer : Stmt := top 5
abbrev N_is_integer : List Str := ["thing", "low", "high"]
abbrev P_is_integer : List Str := ["thing", "low", "high"]
theorem sc_is_integer : FnScope N_is_integer P_is_integer (defScope s_is_integer) := ⟨rfl, rfl, rfl, by decide +kernel, rfl, by decide +kernel, by decide +kernel⟩
abbrev s_is_dimension : Stmt := top 10
abbrev N_is_dimension : List Str := ["thing", "many", "power"]
abbrev P_is_dimension : List Str := ["thing", "many"]
theorem sc_is_dimension : FnScope N_is_dimension P_is_dimension (defScope s_is_dimension) := ⟨rfl, rfl, rfl, by decide +kernel, rfl, by decide +kernel, by decide +kernel⟩
abbrev s_multiplied : Stmt := top 11
abbrev N_multiplied : List Str := ["a", "b", "result", "one", "two"]
abbrev P_multiplied : List Str := ["a", "b"]
theorem sc_multiplied : FnScope N_multiplied P_multiplied (defScope s_multiplied) := ⟨rfl, rfl, rfl, by decide +kernel, rfl, by decide +kernel, by decide +kernel⟩
abbrev s_divided : Stmt := top 12
abbrev N_divided : List Str := ["a", "b", "result", "one", "two"]
abbrev P_divided : List Str := ["a", "b"]
theorem sc_divided : FnScope N_divided P_divided (defScope s_divided) := ⟨rfl, rfl, rfl, by decide +kernel, rfl, by decide +kernel, by decide +kernel⟩
abbrev s_base_dimension : Stmt := top 13
abbrev N_base_dimension : List Str := ["bases", "name", "base"]
abbrev P_base_dimension : List Str := ["bases", "name"]
theorem sc_base_dimension : FnScope N_base_dimension P_base_dimension (defScope s_base_dimension) := ⟨rfl, rfl, rfl, by decide +kernel, rfl, by decide +kernel, by decide +kernel⟩
abbrev s_terms_of : Stmt := top 14
abbrev N_terms_of : List Str := ["text", "terms", "sign", "term", "one"]
abbrev P_terms_of : List Str := ["text"]
theorem sc_terms_of : FnScope N_terms_of P_terms_of (defScope s_terms_of) := ⟨rfl, rfl, rfl, by decide +kernel, rfl, by decide +kernel, by decide +kernel⟩
abbrev s_power_of : Stmt := top 15
abbrev N_power_of : List Str := ["term", "name", "mark", "power", "sign"]
abbrev P_power_of : List Str := ["term"]
theorem sc_power_of : FnScope N_power_of P_power_of (defScope s_power_of) := ⟨rfl, rfl, rfl, by decide +kernel, rfl, by decide +kernel, by decide +kernel⟩
abbrev s_read_product : Stmt := top 16
abbrev N_read_product : List Str := ["text", "names", "sums", "name", "place", "sign", "term", "power", "powers"]
abbrev P_read_product : List Str := ["text", "names"]
theorem sc_read_product : FnScope N_read_product P_read_product (defScope s_read_product) := ⟨rfl, rfl, rfl, by decide +kernel, rfl, by decide +kernel, by decide +kernel⟩
abbrev s_write_product : Stmt := top 17
abbrev N_write_product : List Str := ["names", "exponents", "above", "below", "name", "power"]
abbrev P_write_product : List Str := ["names", "exponents"]
theorem sc_write_product : FnScope N_write_product P_write_product (defScope s_write_product) := ⟨rfl, rfl, rfl, by decide +kernel, rfl, by decide +kernel, by decide +kernel⟩
abbrev s_is_name : Stmt := top 21
abbrev N_is_name : List Str := ["thing", "sign"]
abbrev P_is_name : List Str := ["thing"]
theorem sc_is_name : FnScope N_is_name P_is_name (defScope s_is_name) := ⟨rfl, rfl, rfl, by decide +kernel, rfl, by decide +kernel, by decide +kernel⟩
abbrev s_l_bag_of : Stmt := top 23
abbrev N_l_bag_of : List Str := ["_law_script", "_law_mixed", "_law_cell"]
abbrev P_l_bag_of : List Str := ["_law_script"]
theorem sc_l_bag_of : FnScope N_l_bag_of P_l_bag_of (defScope s_l_bag_of) := ⟨rfl, rfl, rfl, by decide +kernel, rfl, by decide +kernel, by decide +kernel⟩
abbrev s_l_pick : Stmt := top 24
abbrev N_l_pick : List Str := ["_law_bag", "_law_many", "_law_number", "_law_cell"]
abbrev P_l_pick : List Str := ["_law_bag", "_law_many"]
theorem sc_l_pick : FnScope N_l_pick P_l_pick (defScope s_l_pick) := ⟨rfl, rfl, rfl, by decide +kernel, rfl, by decide +kernel, by decide +kernel⟩
abbrev s_l_choice : Stmt := top 25
abbrev N_l_choice : List Str := ["_law_bag", "_law_things"]
abbrev P_l_choice : List Str := ["_law_bag", "_law_things"]
theorem sc_l_choice : FnScope N_l_choice P_l_choice (defScope s_l_choice) := ⟨rfl, rfl, rfl, by decide +kernel, rfl, by decide +kernel, by decide +kernel⟩
abbrev s_l_one_in : Stmt := top 26
abbrev N_l_one_in : List Str := ["_law_bag", "_law_many"]
abbrev P_l_one_in : List Str := ["_law_bag", "_law_many"]
theorem sc_l_one_in : FnScope N_l_one_in P_l_one_in (defScope s_l_one_in) := ⟨rfl, rfl, rfl, by decide +kernel, rfl, by decide +kernel, by decide +kernel⟩
abbrev s_l_integer : Stmt := top 27
abbrev N_l_integer : List Str := ["_law_thing"]
abbrev P_l_integer : List Str := ["_law_thing"]
theorem sc_l_integer : FnScope N_l_integer P_l_integer (defScope s_l_integer) := ⟨rfl, rfl, rfl, by decide +kernel, rfl, by decide +kernel, by decide +kernel⟩
abbrev s_l_letters_of : Stmt := top 28
abbrev N_l_letters_of : List Str := ["_law_bag", "_law_many", "_law_k"]
abbrev P_l_letters_of : List Str := ["_law_bag", "_law_many"]
theorem sc_l_letters_of : FnScope N_l_letters_of P_l_letters_of (defScope s_l_letters_of) := ⟨rfl, rfl, rfl, by decide +kernel, rfl, by decide +kernel, by decide +kernel⟩
abbrev s_l_words : Stmt := top 29
abbrev N_l_words : List Str := ["_law_told"]
abbrev P_l_words : List Str := []
theorem sc_l_words : FnScope N_l_words P_l_words (defScope s_l_words) := ⟨rfl, rfl, rfl, by decide +kernel, rfl, by decide +kernel, by decide +kernel⟩
abbrev s_l_names_of : Stmt := top 30
abbrev N_l_names_of : List Str := ["_law_bag", "_law_many", "_law_taken", "_law_letters", "_law_k", "_law_drawn", "_law_name", "_law_step"]
abbrev P_l_names_of : List Str := ["_law_bag", "_law_many"]
theorem sc_l_names_of : FnScope N_l_names_of P_l_names_of (defScope s_l_names_of) := ⟨rfl, rfl, rfl, by decide +kernel, rfl, by decide +kernel, by decide +kernel⟩
abbrev s_l_own_names : Stmt := top 31
abbrev N_l_own_names : List Str := ["_law_bag", "_law_names", "_law_k"]
abbrev P_l_own_names : List Str := ["_law_bag"]
theorem sc_l_own_names : FnScope N_l_own_names P_l_own_names (defScope s_l_own_names) := ⟨rfl, rfl, rfl, by decide +kernel, rfl, by decide +kernel, by decide +kernel⟩
abbrev s_l_exponent : Stmt := top 32
abbrev N_l_exponent : List Str := ["_law_bag", "_law_way"]
abbrev P_l_exponent : List Str := ["_law_bag"]
theorem sc_l_exponent : FnScope N_l_exponent P_l_exponent (defScope s_l_exponent) := ⟨rfl, rfl, rfl, by decide +kernel, rfl, by decide +kernel, by decide +kernel⟩
abbrev s_l_product : Stmt := top 33
abbrev N_l_product : List Str := ["_law_bag", "_law_names", "_law_many", "_law_text", "_law_k"]
abbrev P_l_product : List Str := ["_law_bag", "_law_names"]
theorem sc_l_product : FnScope N_l_product P_l_product (defScope s_l_product) := ⟨rfl, rfl, rfl, by decide +kernel, rfl, by decide +kernel, by decide +kernel⟩
abbrev s_l_figure_of : Stmt := top 34
abbrev N_l_figure_of : List Str := ["_law_text", "_law_k"]
abbrev P_l_figure_of : List Str := ["_law_text"]
theorem sc_l_figure_of : FnScope N_l_figure_of P_l_figure_of (defScope s_l_figure_of) := ⟨rfl, rfl, rfl, by decide +kernel, rfl, by decide +kernel, by decide +kernel⟩
abbrev s_l_powers_of : Stmt := top 35
abbrev N_l_powers_of : List Str := ["_law_text", "_law_names", "_law_table", "_law_name", "_law_pieces", "_law_k", "_law_piece", "_law_mark", "_law_figure", "_law_many"]
abbrev P_l_powers_of : List Str := ["_law_text", "_law_names"]
theorem sc_l_powers_of : FnScope N_l_powers_of P_l_powers_of (defScope s_l_powers_of) := ⟨rfl, rfl, rfl, by decide +kernel, rfl, by decide +kernel, by decide +kernel⟩
abbrev s_l_written : Stmt := top 36
abbrev N_l_written : List Str := ["_law_names", "_law_powers", "_law_above", "_law_below", "_law_k"]
abbrev P_l_written : List Str := ["_law_names", "_law_powers"]
theorem sc_l_written : FnScope N_l_written P_l_written (defScope s_l_written) := ⟨rfl, rfl, rfl, by decide +kernel, rfl, by decide +kernel, by decide +kernel⟩
abbrev s_l_same : Stmt := top 37
abbrev N_l_same : List Str := ["_law_told", "_law_due", "_law_one"]
abbrev P_l_same : List Str := ["_law_told", "_law_due"]
theorem sc_l_same : FnScope N_l_same P_l_same (defScope s_l_same) := ⟨rfl, rfl, rfl, by decide +kernel, rfl, by decide +kernel, by decide +kernel⟩
abbrev s_l_right_reading : Stmt := top 38
abbrev N_l_right_reading : List Str := ["_law_text", "_law_names"]
abbrev P_l_right_reading : List Str := ["_law_text", "_law_names"]
theorem sc_l_right_reading : FnScope N_l_right_reading P_l_right_reading (defScope s_l_right_reading) := ⟨rfl, rfl, rfl, by decide +kernel, rfl, by decide +kernel, by decide +kernel⟩
abbrev s_l_spoilt : Stmt := top 39
abbrev N_l_spoilt : List Str := ["_law_bag", "_law_text", "_law_turn", "_law_at", "_law_sign", "_law_way"]
abbrev P_l_spoilt : List Str := ["_law_bag", "_law_text"]
theorem sc_l_spoilt : FnScope N_l_spoilt P_l_spoilt (defScope s_l_spoilt) := ⟨rfl, rfl, rfl, by decide +kernel, rfl, by decide +kernel, by decide +kernel⟩
abbrev s_l_odd_texts : Stmt := top 40
abbrev N_l_odd_texts : List Str := ["_law_a", "_law_b", "_law_texts", "_law_one"]
abbrev P_l_odd_texts : List Str := ["_law_a", "_law_b"]
theorem sc_l_odd_texts : FnScope N_l_odd_texts P_l_odd_texts (defScope s_l_odd_texts) := ⟨rfl, rfl, rfl, by decide +kernel, rfl, by decide +kernel, by decide +kernel⟩
abbrev s_l_long_texts : Stmt := top 41
abbrev N_l_long_texts : List Str := ["_law_front", "_law_one"]
abbrev P_l_long_texts : List Str := []
theorem sc_l_long_texts : FnScope N_l_long_texts P_l_long_texts (defScope s_l_long_texts) := ⟨rfl, rfl, rfl, by decide +kernel, rfl, by decide +kernel, by decide +kernel⟩
abbrev s_l_multiplied_told : Stmt := top 42
abbrev N_l_multiplied_told : List Str := ["_law_a", "_law_b", "_law_way", "e"]
abbrev P_l_multiplied_told : List Str := ["_law_a", "_law_b", "_law_way"]
theorem sc_l_multiplied_told : FnScope N_l_multiplied_told P_l_multiplied_told (defScope s_l_multiplied_told) := ⟨rfl, rfl, rfl, by decide +kernel, rfl, by decide +kernel, by decide +kernel⟩
abbrev s_l_base_told : Stmt := top 43
abbrev N_l_base_told : List Str := ["_law_bases", "_law_name", "e"]
abbrev P_l_base_told : List Str := ["_law_bases", "_law_name"]
theorem sc_l_base_told : FnScope N_l_base_told P_l_base_told (defScope s_l_base_told) := ⟨rfl, rfl, rfl, by decide +kernel, rfl, by decide +kernel, by decide +kernel⟩
abbrev s_l_dimension : Stmt := top 44
abbrev N_l_dimension : List Str := ["_law_bag", "_law_many", "_law_wide", "_law_k"]
abbrev P_l_dimension : List Str := ["_law_bag", "_law_many"]
theorem sc_l_dimension : FnScope N_l_dimension P_l_dimension (defScope s_l_dimension) := ⟨rfl, rfl, rfl, by decide +kernel, rfl, by decide +kernel, by decide +kernel⟩
abbrev s_l_right_products : Stmt := top 45
abbrev N_l_right_products : List Str := ["_law_a", "_law_b", "_law_way", "_law_due", "_law_k", "_law_told", "_law_word", "_law_one"]
abbrev P_l_right_products : List Str := ["_law_a", "_law_b"]
theorem sc_l_right_products : FnScope N_l_right_products P_l_right_products (defScope s_l_right_products) := ⟨rfl, rfl, rfl, by decide +kernel, rfl, by decide +kernel, by decide +kernel⟩
abbrev s_l_right_kinds : Stmt := top 46
abbrev N_l_right_kinds : List Str := ["_law_bag", "_law_a", "_law_many", "_law_at", "_law_odd", "_law_thing"]
abbrev P_l_right_kinds : List Str := ["_law_bag", "_law_a"]
theorem sc_l_right_kinds : FnScope N_l_right_kinds P_l_right_kinds (defScope s_l_right_kinds) := ⟨rfl, rfl, rfl, by decide +kernel, rfl, by decide +kernel, by decide +kernel⟩
abbrev s_l_right_bases : Stmt := top 47
abbrev N_l_right_bases : List Str := ["_law_names", "_law_bases", "_law_k", "_law_due", "_law_step", "_law_row", "_law_told", "_law_name"]
abbrev P_l_right_bases : List Str := ["_law_names"]
theorem sc_l_right_bases : FnScope N_l_right_bases P_l_right_bases (defScope s_l_right_bases) := ⟨rfl, rfl, rfl, by decide +kernel, rfl, by decide +kernel, by decide +kernel⟩
abbrev s_l_right_names : Stmt := top 48
abbrev N_l_right_names : List Str := ["_law_names", "_law_name", "_law_word", "_law_first", "_law_odd", "_law_thing"]
abbrev P_l_right_names : List Str := ["_law_names"]
theorem sc_l_right_names : FnScope N_l_right_names P_l_right_names (defScope s_l_right_names) := ⟨rfl, rfl, rfl, by decide +kernel, rfl, by decide +kernel, by decide +kernel⟩
abbrev s_law : Stmt := top 49
abbrev N_law : List Str := ["_law_script", "_law_bag", "_law_names", "_law_known", "_law_drawn", "_law_texts", "_law_turn", "_law_text", "_law_powers", "_law_row", "_law_told", "_law_many", "_law_a", "_law_b"]
abbrev P_law : List Str := ["_law_script"]
theorem sc_law : FnScope N_law P_law (defScope s_law) := ⟨rfl, rfl, rfl, by decide +kernel, rfl, by decide +kernel, by decide +kernel⟩

def isIntegerD (d : PyData) (lo hi : Option Int) : Bool := match d with
  | .int i => (match lo with
    | some l => decide (l ≤ i)
    | none => true) && (match hi with
    | some l => decide (i ≤ l)
    | none => true)
  | _ => false
def spChoice (K : PySem.W.Frag) : Sp := fun vs H Q E => ∃ b, BagAt H b ∧ ((∃ p xs, vs = [.ref b, .ref p] ∧ SqL K H p xs ∧ 0 < xs.length ∧ xs.length ≤ 1000 ∧ ∀ v H', v ∈ xs → Kb b H H' → Q v H') ∨
  ∃ z : Str, vs = [.ref b, .str z] ∧ 0 < z.length ∧ z.length ≤ 1000 ∧ ∀ c H', c ∈ z.cps.toList → Kb b H H' → Q (.str ⟨#[c]⟩) H')
def spOne : Sp := fun vs H Q E => ∃ (b : Addr) (m : Int), vs = [.ref b, .int m] ∧ BagAt H b ∧ 0 < m ∧ m.natAbs.log2 < 9000 ∧ ∀ (r : Bool) H', Kb b H H' → Q (.bl r) H'
def spBagOf (K : PySem.W.Frag) : Sp := fun vs H Q E => ∃ p ns, vs = [.ref p] ∧ SqL K H p (List.map V.int ns) ∧ ns.length ≤ 63 ∧ (∀ i ∈ ns, i.natAbs.log2 ≤ 1048576) ∧ ∀ b H', Ex H H' → BagAt H' b → Q (.ref b) H'
def spInteger (K : PySem.W.Frag) : Sp := fun vs H Q E => ∃ v d, vs = [v] ∧ Dp K H v d ∧ Q (.bl (isIntegerD d none none)) H
def spIsInteger (K : PySem.W.Frag) : Sp := fun vs H Q E => ∃ v d lo l hi h, vs = [v, lo, hi] ∧ Dp K H v d ∧ (lo = .non ∧ l = none ∨ ∃ i, lo = .int i ∧ l = some i) ∧ (hi = .non ∧ h = none ∨ ∃ i, hi = .int i ∧ h = some i) ∧ Q (.bl (isIntegerD d l h)) H
theorem log_le {a n : Nat} (h : a < 2 ^ n) (n0 : 0 < n) : a.log2 < n := by
  by_cases z : a = 0
  · subst z; simpa using n0
  · exact (Nat.log2_lt z).mpr h
theorem app_len (a b : Str) : (a ++ b).length = a.length + b.length := by
  show (a ++ b).cps.size = a.cps.size + b.cps.size
  rw [Str.cps_append, Array.size_append]
theorem emp_app (x : Str) : Str.empty ++ x = x := TL.ext_tl (by rw [TL.tl_append]; rfl)
theorem sign_eq (c d : Nat) : decide ((⟨#[c]⟩ : Str) = ⟨#[d]⟩) = decide (c = d) := by
  have : ((⟨#[c]⟩ : Str) = ⟨#[d]⟩) ↔ c = d := by
    constructor
    · intro h
      have h2 : (#[c] : Array Nat) = #[d] := congrArg Str.cps h
      exact (Array.mk.inj h2) |> fun q => (List.cons.inj q).1
    · rintro rfl; rfl
  exact decide_eq_decide.mpr this
/-! names -/
def low (z : Str) : Prop := ∀ c ∈ z.cps.toList, 97 ≤ c ∧ c ≤ 122
def wordsV : List Str := (["days", "base", "unit", "device", "feature", "role", "job", "procedure", "takes", "uses", "read", "by", "let", "be", "tell", "in", "judge", "good", "bad", "choose", "passed", "failed", "open", "repeat", "leave", "call", "stop", "end", "size", "offset", "news", "cert", "stand", "jolt", "edition", "strike", "told", "within", "sum", "product", "quotient", "card", "spot", "row", "ground", "nobody"] : List String).map Str.ofString
structure NameIs (z : Str) : Prop where
  l1 : 1 ≤ z.length
  l2 : z.length ≤ 12
  low : low z
  own : z ∉ wordsV
structure Names (zs : List Str) : Prop where
  nd : zs.Nodup
  each : ∀ z ∈ zs, NameIs z
def spLetters : Sp := fun vs H Q E => ∃ (b : Addr) (m : Int), vs = [.ref b, .int m] ∧ BagAt H b ∧ 0 ≤ m ∧ m ≤ 100 ∧ ∀ (z : Str) H', (z.length : Int) = m → low z → Kb b H H' → Q (.str z) H'
def spWords : Sp := fun vs H Q E => vs = [] ∧ ∀ p H', H p = none → Ex H H' → H' p = some (.lst (wordsV.map V.str)) → Q (.ref p) H'
def spNamesOf : Sp := fun vs H Q E => ∃ (b : Addr) (m : Int), vs = [.ref b, .int m] ∧ BagAt H b ∧ 0 ≤ m ∧ m ≤ 20 ∧ ∀ p zs H', (zs.length : Int) = m → Names zs → Kb b H H' → H' p = some (.lst (zs.map V.str)) → Q (.ref p) H'
theorem lt_log9000 {m : Int} (h : m.natAbs < 2 ^ 20) : m.natAbs.log2 < 9000 := Nat.lt_trans (log_le h (by decide)) (by decide)
theorem joinL_len (y : List Nat) : ∀ (l : List (List Nat)), (TL.joinL y l).length ≤ (l.map List.length).sum + l.length * y.length
  | [] => Nat.zero_le _
  | [p] => by simp [TL.joinL]
  | p :: q :: r => by
    have ih := joinL_len y (q :: r)
    show (p ++ (y ++ TL.joinL y (q :: r))).length ≤ _
    rw [List.length_append, List.length_append, List.map_cons, List.sum_cons, List.length_cons (a := p), Nat.succ_mul]
    omega
theorem join_len (y : Str) (xs : List Str) : (Txt.join y xs).length ≤ (xs.map (fun x => x.length)).sum + xs.length * y.length := by
  have e : (xs.map TL.tl).map List.length = xs.map (fun x => x.length) := by
    rw [List.map_map]
    exact List.map_congr_left fun x _ => (TL.len_tl x).symm
  rw [TL.len_tl, TL.join_eq, TL.tl_join, ← e, TL.len_tl y]
  have := joinL_len (TL.tl y) (xs.map TL.tl)
  rw [List.length_map] at this
  exact this
theorem sum_le (B : Nat) : ∀ (xs : List Str), (∀ x ∈ xs, x.length ≤ B) → (xs.map (fun x => x.length)).sum ≤ xs.length * B
  | [], _ => Nat.zero_le _
  | x :: r, h => by
    rw [List.map_cons, List.sum_cons, List.length_cons, Nat.succ_mul]
    have := sum_le B r fun y hy => h y (List.mem_cons_of_mem _ hy)
    have := h x List.mem_cons_self
    omega
/-! texts and ints as data -/
theorem inV_strs (a : Str) (zs : List Str) : inV (.str a) (zs.map V.str) = decide (a ∈ zs) := by
  unfold inV
  rw [List.any_map, Bool.eq_iff_iff, List.any_eq_true, decide_eq_true_eq]
  constructor
  · rintro ⟨z, hz, e⟩
    have e' : (z == a) = true := e
    rw [← beq_iff_eq.mp e']; exact hz
  · intro h
    exact ⟨a, h, show (a == a) = true from beq_self_eq_true a⟩
theorem flat_strs (zs : List Str) : (zs.map V.str).all flatV = true := by
  rw [List.all_map, List.all_eq_true]
  intro z _
  rfl
theorem dpa_ints {K : PySem.W.Frag} {H : Hp} : ∀ (xs : List Int), DpAll K H (xs.map V.int) (xs.map PyData.int)
  | [] => .nil
  | x :: r => .cons (.int x) (dpa_ints r)
theorem dpa_strs {K : PySem.W.Frag} {H : Hp} : ∀ (xs : List Str), DpAll K H (xs.map V.str) (xs.map PyData.str)
  | [] => .nil
  | x :: r => .cons (.str x) (dpa_strs r)
theorem tupI_dp {K : PySem.W.Frag} {H : Hp} {q : Addr} {xs : List Int} (h : SqT K H q (xs.map V.int)) : Dp K H (.ref q) (.tuple (xs.map PyData.int)) := .tup h (dpa_ints xs)
theorem lstS_dp {K : PySem.W.Frag} {H : Hp} {q : Addr} {xs : List Str} (h : SqL K H q (xs.map V.str)) : Dp K H (.ref q) (.list (xs.map PyData.str)) := .lst h (dpa_strs xs)
theorem eqva_ints : ∀ (xs ys : List Int), PyData.eqvAll (xs.map PyData.int) (ys.map PyData.int) = decide (xs = ys)
  | [], [] => rfl
  | [], _ :: _ => rfl
  | _ :: _, [] => rfl
  | x :: xs, y :: ys => by rw [List.map_cons, List.map_cons, PyData.eqvAll, eqva_ints xs ys]; simp [PyData.eqv, Bool.beq_eq_decide_eq]
theorem eqv_ints (xs ys : List Int) : PyData.eqv (.tuple (xs.map PyData.int)) (.tuple (ys.map PyData.int)) = decide (xs = ys) := by rw [PyData.eqv, eqva_ints]
theorem canLay_ints : ∀ (xs : List Int), PyData.canLayAll0 (xs.map PyData.int) = true
  | [] => rfl
  | x :: r => by rw [List.map_cons, PyData.canLayAll0, canLay_ints r]; rfl
theorem depth_ints : ∀ (xs : List Int), PyData.depthAll (xs.map PyData.int) = 0
  | [] => rfl
  | x :: r => by rw [List.map_cons, PyData.depthAll, depth_ints r]; rfl
theorem shaped_ints (xs : List Int) : SeqAt.shaped (.tuple (xs.map PyData.int)) = true := by
  rw [SeqAt.shaped, PyData.canLay0, canLay_ints, PyData.depth, depth_ints]; rfl
theorem str_get {bs : List Str} {i : Nat} {x : V} (hx : (bs.map V.str)[i]? = some x) : ∃ b, bs[i]? = some b ∧ x = .str b := by
  rw [List.getElem?_map] at hx
  cases q : bs[i]? with
  | none => rw [q] at hx; cases hx
  | some b => rw [q] at hx; cases hx; exact ⟨b, rfl, rfl⟩
theorem int_get {bs : List Int} {i : Nat} {x : V} (hx : (bs.map V.int)[i]? = some x) : ∃ b, bs[i]? = some b ∧ x = .int b := by
  rw [List.getElem?_map] at hx
  cases q : bs[i]? with
  | none => rw [q] at hx; cases hx
  | some b => rw [q] at hx; cases hx; exact ⟨b, rfl, rfl⟩

structure Tp (P : Program) (K : PySem.W.Frag) (mg : Str → Option Value) (cE cH cU cW : Addr) : Prop extends Bi mg where
  x_TooHigh : Xc.Txt P K mg "TooHigh" ["dimension"] cH
  x_Unknown : Xc.Txt P K mg "Unknown" ["name"] cU
  g_TooHigh : mg "TooHigh" = some (.ref cH)
  g_Unknown : mg "Unknown" = some (.ref cU)
  g_EllError : mg "EllError" = some (.ref cE)
  g_HIGH : ∃ t, mg "HIGH" = some (.int 9 t)
  g_SIGNS : ∃ t, mg "SIGNS" = some (.int 200 t)
  g_POWERS : ∃ t, mg "POWERS" = some (.str "123456789" t)
  g_LETTERS : ∃ t, mg "LETTERS" = some (.str "abcdefghijklmnopqrstuvwxyz" t)
  g_WORDS : mg "WORDS" = some (.ref cW)
  tW : ∀ H : Hp, SqT K H cW (wordsV.map V.str)
  mHH : PySem.W.exmOne K (.ref cH) (.ref cH) = some true
  mUU : PySem.W.exmOne K (.ref cU) (.ref cU) = some true
  oHV : PySem.W.kitOne K (.ref cH) (.type "ValueError") = some true
  oUV : PySem.W.kitOne K (.ref cU) (.type "ValueError") = some true
  oHE : PySem.W.kitOne K (.ref cH) (.ref cE) = some true
  oUE : PySem.W.kitOne K (.ref cU) (.ref cE) = some true
  oHU : PySem.W.kitOne K (.ref cH) (.ref cU) = some false
  oUH : PySem.W.kitOne K (.ref cU) (.ref cH) = some false
  eH : ExcC K cH
  eU : ExcC K cU
  xf_TooHigh : XfC K cH
  xf_Unknown : XfC K cU
  xn_TooHigh_dimension : PySem.W.findIn K (.ref cH) "dimension" = some none
  xn_Unknown_name : PySem.W.findIn K (.ref cU) "name" = some none
/-! ### a product's text -/
def termsL : Int → List Nat → List Nat → List (Int × Str)
  | s, acc, [] => [(s, ⟨acc.toArray⟩)]
  | s, acc, c :: r => if c = 42 ∨ c = 47 then (s, ⟨acc.toArray⟩) :: termsL (if c = 42 then 1 else -1) [] r else termsL s (acc ++ [c]) r
def termsV (z : Str) : List (Int × Str) := termsL 1 [] z.cps.toList
def figL : List Nat → Int
  | [c] => if 49 ≤ c ∧ c ≤ 57 then (c : Int) - 48 else 0
  | [m, c] => if m = 45 ∧ 49 ≤ c ∧ c ≤ 57 then 48 - (c : Int) else 0
  | _ => 0
def powV (z : Str) : Str × Int := let p := Txt.partition z "^"; if p.2.1 = "" then (p.1, 1) else (p.1, figL p.2.2.cps.toList)
def putF (f : Str → Int) (n : Str) (v : Int) : Str → Int := fun m => if m = n then v else f m
def rdL (ns : List Str) : Nat → List (Int × Str) → (Str → Int) → Option (Str → Int)
  | _, [], f => some f
  | i, (s, t) :: r, f => if i = 0 ∧ t = "1" then rdL ns (i + 1) r f else if (powV t).2 = 0 ∨ (powV t).1 ∉ ns then none else rdL ns (i + 1) r (putF f (powV t).1 (f (powV t).1 + s * (powV t).2))
def inR (xs : List Int) : Bool := xs.all fun x => decide (-9 ≤ x) && decide (x ≤ 9)
def readV (z : Str) (ns : List Str) : Option (List Int) := if 200 < z.length then none else match rdL ns 0 (termsV z) (fun _ => 0) with
  | none => none
  | some f => if inR (ns.map f) = true then some (ns.map f) else none
/-- the dict of sums -/
def sumsK (ns : List Str) (f : Str → Int) : List (Key × V) := ns.map fun n => ((.inr n : Key), V.int (f n))
theorem valV_sums {ns : List Str} {f : Str → Int} {n : Str} : valV (sumsK ns f) (.inr n) = if n ∈ ns then some (.int (f n)) else none := by
  induction ns with
  | nil => rfl
  | cons a r ih =>
    unfold sumsK at ih ⊢
    rw [List.map_cons]
    by_cases e : a = n
    · subst e
      rw [valV_pos rfl, if_pos List.mem_cons_self]
    · rw [valV_neg (fun q => e (Sum.inr.inj q)), ih]
      by_cases h : n ∈ r
      · rw [if_pos h, if_pos (List.mem_cons_of_mem _ h)]
      · rw [if_neg h, if_neg (fun q => by rcases List.mem_cons.mp q with q | q; exact e q.symm; exact h q)]
theorem putK_sums {ns : List Str} {f : Str → Int} {n : Str} {v : Int} (h : n ∈ ns) : putK (sumsK ns f) (.inr n) (.int v) = sumsK ns (putF f n v) := by
  rw [put_pos (w := .int (f n)) (by rw [valV_sums, if_pos h])]
  unfold sumsK putF
  rw [List.map_map]
  refine List.map_congr_left fun m _ => ?_
  show (if (Sum.inr m : Key) = .inr n then ((Sum.inr m : Key), V.int v) else (.inr m, .int (f m))) = (.inr m, .int (if m = n then v else f m))
  by_cases e : m = n
  · rw [if_pos (by rw [e]), if_pos e]
  · rw [if_neg (fun q => e (Sum.inr.inj q)), if_neg e]
theorem putK_sums_new {ns : List Str} {f : Str → Int} {n : Str} (h : n ∉ ns) : putK (sumsK ns f) (.inr n) (.int (f n)) = sumsK (ns ++ [n]) f := by
  rw [putK_new _ (by rw [valV_sums, if_neg h])]
  unfold sumsK
  rw [List.map_append]
  rfl
theorem fig_rng (l : List Nat) : -9 ≤ figL l ∧ figL l ≤ 9 := by
  match l with
  | [] => simp [figL]
  | [c] => simp only [figL]; split <;> omega
  | [m, c] => simp only [figL]; split <;> omega
  | _ :: _ :: _ :: _ => simp [figL]
theorem pow_rng (z : Str) : -9 ≤ (powV z).2 ∧ (powV z).2 ≤ 9 := by
  unfold powV
  by_cases h : (Txt.partition z "^").2.1 = ""
  · rw [if_pos h]; exact ⟨show (-9 : Int) ≤ 1 by decide, show (1 : Int) ≤ 9 by decide⟩
  · rw [if_neg h]; exact fig_rng _
theorem terms_sgn : ∀ (l : List Nat) (s : Int) (acc : List Nat), (s = 1 ∨ s = -1) → ∀ t ∈ termsL s acc l, t.1 = 1 ∨ t.1 = -1
  | [], s, acc, h, t, ht => by rw [termsL] at ht; rw [List.mem_singleton.mp ht]; exact h
  | c :: r, s, acc, h, t, ht => by
    rw [termsL] at ht
    by_cases q : c = 42 ∨ c = 47
    · rw [if_pos q] at ht
      rcases List.mem_cons.mp ht with e | ht
      · rw [e]; exact h
      · exact terms_sgn r _ [] (by by_cases z : c = 42 <;> simp [z]) t ht
    · rw [if_neg q] at ht
      exact terms_sgn r s (acc ++ [c]) h t ht
theorem terms_len : ∀ (l : List Nat) (s : Int) (acc : List Nat), ∀ t ∈ termsL s acc l, t.2.length ≤ acc.length + l.length
  | [], s, acc, t, ht => by rw [termsL] at ht; rw [List.mem_singleton.mp ht]; show acc.toArray.size ≤ _; rw [List.size_toArray]; omega
  | c :: r, s, acc, t, ht => by
    rw [termsL] at ht
    rw [List.length_cons]
    by_cases q : c = 42 ∨ c = 47
    · rw [if_pos q] at ht
      rcases List.mem_cons.mp ht with e | ht
      · rw [e]; show acc.toArray.size ≤ _; rw [List.size_toArray]; omega
      · have := terms_len r _ [] t ht
        simp at this; omega
    · rw [if_neg q] at ht
      have := terms_len r s (acc ++ [c]) t ht
      rw [List.length_append] at this
      simp at this; omega
theorem rd_one {ns : List Str} {ts : List (Int × Str)} {f : Str → Int} {i : Nat} {s : Int} {t : Str} (h : ts[i]? = some (s, t)) : rdL ns i (ts.drop i) f = if i = 0 ∧ t = "1" then rdL ns (i + 1) (ts.drop (i + 1)) f else if (powV t).2 = 0 ∨ (powV t).1 ∉ ns then none else rdL ns (i + 1) (ts.drop (i + 1)) (putF f (powV t).1 (f (powV t).1 + s * (powV t).2)) := by
  have hi := (List.getElem?_eq_some_iff.mp h)
  rw [List.drop_eq_getElem_cons hi.1, hi.2, rdL]
/-- a text of a power -/
def upT (p : Int) : Str := if 1 < p then ("^" : Str) ++ (Str.ofString (toString p)) else ""
def dnT (p : Int) : Str := if p < -1 then ("^" : Str) ++ (Str.ofString (toString (-p))) else ""
def segA (n : Str) (p : Int) : Str := n ++ upT p
def segB (n : Str) (p : Int) : Str := ("/" : Str) ++ n ++ dnT p
def aboveL (l : List (Str × Int)) : List Str := (l.filter fun x => decide (0 < x.2)).map fun x => segA x.1 x.2
def belowL (l : List (Str × Int)) : Str := (l.filter fun x => decide (x.2 < 0)).foldl (fun a x => a ++ segB x.1 x.2) ""
theorem str_assoc (a b c : Str) : a ++ b ++ c = a ++ (b ++ c) := TL.ext_tl (by rw [TL.tl_append, TL.tl_append, TL.tl_append, TL.tl_append, List.append_assoc])
theorem str_emp (a : Str) : a ++ "" = a := TL.ext_tl (by rw [TL.tl_append]; exact List.append_nil _)
theorem str_emp0 (a : Str) : ("" : Str) ++ a = a := TL.ext_tl (by rw [TL.tl_append]; rfl)
theorem above_add (n : Str) (p : Int) (l : List (Str × Int)) : aboveL (l ++ [(n, p)]) = if 0 < p then aboveL l ++ [segA n p] else aboveL l := by
  unfold aboveL
  rw [List.filter_append, List.map_append]
  by_cases h : 0 < p
  · rw [if_pos h, List.filter_cons, if_pos (by simpa using h)]; rfl
  · rw [if_neg h, List.filter_cons, if_neg (by simpa using h)]; exact List.append_nil _
theorem below_add (n : Str) (p : Int) (l : List (Str × Int)) : belowL (l ++ [(n, p)]) = if p < 0 then belowL l ++ segB n p else belowL l := by
  unfold belowL
  rw [List.filter_append, List.foldl_append]
  by_cases h : p < 0
  · rw [if_pos h, List.filter_cons, if_pos (by simpa using h)]; rfl
  · rw [if_neg h, List.filter_cons, if_neg (by simpa using h)]; rfl
theorem inR_of {xs : List Int} {i : Nat} {p : Int} (h : inR xs = true) (e : xs[i]? = some p) : -9 ≤ p ∧ p ≤ 9 := by
  have := List.all_eq_true.mp h p (List.mem_of_getElem? e)
  simpa using this
/-- a number of one figure as a text -/
theorem tos_len {p : Int} (h1 : 1 ≤ p) (h9 : p ≤ 9) : p.natAbs.log2 < 1920 ∧ (Str.ofString (toString p)).length = 1 := by
  obtain ⟨n, rfl⟩ := Int.eq_ofNat_of_zero_le (show 0 ≤ p by omega)
  match n, h1, h9 with
  | 1, _, _ => exact ⟨by decide, by decide +kernel⟩
  | 2, _, _ => exact ⟨by decide, by decide +kernel⟩
  | 3, _, _ => exact ⟨by decide, by decide +kernel⟩
  | 4, _, _ => exact ⟨by decide, by decide +kernel⟩
  | 5, _, _ => exact ⟨by decide, by decide +kernel⟩
  | 6, _, _ => exact ⟨by decide, by decide +kernel⟩
  | 7, _, _ => exact ⟨by decide, by decide +kernel⟩
  | 8, _, _ => exact ⟨by decide, by decide +kernel⟩
  | 9, _, _ => exact ⟨by decide, by decide +kernel⟩
  | 0, h, _ => exact absurd h (by decide)
  | n + 10, _, h => exact absurd h (by omega)
theorem strOk_app (a b : Str) (h1 : PyData.strOk a = true) (h2 : PyData.strOk b = true) : PyData.strOk (a ++ b) = true := by
  unfold PyData.strOk at *
  rw [Str.cps_append, Array.all_append, h1, h2]
  rfl
theorem strOk_low {z : Str} (h : low z) : PyData.strOk z = true := by
  unfold PyData.strOk
  rw [Array.all_eq_true]
  intro i hi
  have := h (z.cps[i]) (Array.getElem_mem_toList hi)
  simp
  omega
theorem tos_ok {p : Int} (h1 : 1 ≤ p) (h9 : p ≤ 9) : PyData.strOk (Str.ofString (toString p)) = true := by
  obtain ⟨n, rfl⟩ := Int.eq_ofNat_of_zero_le (show 0 ≤ p by omega)
  match n, h1, h9 with
  | 1, _, _ => decide +kernel
  | 2, _, _ => decide +kernel
  | 3, _, _ => decide +kernel
  | 4, _, _ => decide +kernel
  | 5, _, _ => decide +kernel
  | 6, _, _ => decide +kernel
  | 7, _, _ => decide +kernel
  | 8, _, _ => decide +kernel
  | 9, _, _ => decide +kernel
  | 0, h, _ => exact absurd h (by decide)
  | n + 10, _, h => exact absurd h (by omega)
theorem segA_ok {n : Str} {p : Int} (l : n.length ≤ 12) (o : PyData.strOk n = true) (h1 : 0 < p) (h9 : p ≤ 9) : (segA n p).length ≤ 20 ∧ PyData.strOk (segA n p) = true := by
  unfold segA upT
  by_cases h : 1 < p
  · rw [if_pos h, app_len, app_len, (tos_len (by omega) h9).2]
    exact ⟨by show _ + (1 + 1) ≤ 20; omega, strOk_app _ _ o (strOk_app _ _ (by decide +kernel) (tos_ok (by omega) h9))⟩
  · rw [if_neg h, str_emp]
    exact ⟨by omega, o⟩
theorem canLay_strs : ∀ (xs : List Str), (∀ x ∈ xs, PyData.strOk x = true) → PyData.canLayAll0 (xs.map PyData.str) = true
  | [], _ => rfl
  | x :: r, h => by rw [List.map_cons, PyData.canLayAll0, canLay_strs r (fun y hy => h y (List.mem_cons_of_mem _ hy)), PyData.canLay0, h x List.mem_cons_self]; rfl
theorem depth_strs : ∀ (xs : List Str), PyData.depthAll (xs.map PyData.str) = 0
  | [] => rfl
  | x :: r => by rw [List.map_cons, PyData.depthAll, depth_strs r]; rfl
theorem nodup_inj : ∀ {xs : List Str} {i j : Nat} {x : Str}, xs.Nodup → xs[i]? = some x → xs[j]? = some x → i = j
  | [], i, j, x, _, h, _ => by simp at h
  | a :: r, 0, 0, x, _, _, _ => rfl
  | a :: r, 0, j + 1, x, nd, h, g => absurd (List.mem_of_getElem? (show r[j]? = some x by simpa using g)) (by
      have : a = x := by simpa using h
      rw [← this]; exact (List.nodup_cons.mp nd).1)
  | a :: r, i + 1, 0, x, nd, h, g => absurd (List.mem_of_getElem? (show r[i]? = some x by simpa using h)) (by
      have : a = x := by simpa using g
      rw [← this]; exact (List.nodup_cons.mp nd).1)
  | a :: r, i + 1, j + 1, x, nd, h, g => by rw [nodup_inj (List.nodup_cons.mp nd).2 (show r[i]? = some x by simpa using h) (show r[j]? = some x by simpa using g)]
theorem zip_add {ns : List Str} {xs : List Int} {i : Nat} {n : Str} {p : Int} (h : ns[i]? = some n) (g : xs[i]? = some p) : (ns.zip xs).take (i + 1) = (ns.zip xs).take i ++ [(n, p)] := by
  rw [List.take_add_one, (List.getElem?_zip_eq_some (z := (n, p))).mpr ⟨h, g⟩]
  rfl
theorem app_len' (a b : Str) : (a ++ b).length = a.length + b.length := app_len a b
def writV (ns : List Str) (xs : List Int) : Str := if aboveL (ns.zip xs) = [] then ("1" : Str) ++ belowL (ns.zip xs) else Txt.join "*" (aboveL (ns.zip xs)) ++ belowL (ns.zip xs)
/-- a tuple of ints -/
def TupI (K : PySem.W.Frag) (H : Hp) (v : V) (xs : List Int) : Prop := ∃ q, v = .ref q ∧ SqT K H q (xs.map V.int)
def OptI (K : PySem.W.Frag) (H : Hp) (v : V) (o : Option (List Int)) : Prop := (o = none ∧ v = .non) ∨ ∃ xs, o = some xs ∧ TupI K H v xs
/-! ### promises of the program's defs -/
def isDimD (d : PyData) (m : Int) : Bool := match d with
  | .tuple ds => decide ((ds.length : Int) = m) && ds.all fun d => isIntegerD d (some (-9)) (some 9)
  | _ => false
def spIsDim (K : PySem.W.Frag) : Sp := fun vs H Q E => ∃ v d m, vs = [v, .int m] ∧ Dp K H v d ∧ (match d with | .tuple ds => ds.length ≤ 1000 | _ => True) ∧ ∀ H', Ex H H' → Q (.bl (isDimD d m)) H'
theorem isDim_ints (xs : List Int) : isDimD (.tuple (xs.map PyData.int)) (xs.length : Int) = inR xs := by
  simp only [isDimD]
  rw [decide_eq_true (by rw [List.length_map]), Bool.true_and, List.all_map]
  rfl
def spMul (K : PySem.W.Frag) (cH : Addr) (g : Int → Int → Int) : Sp := fun vs H Q E => ∃ (a b : V) (xs ys : List Int), vs = [a, b] ∧ TupI K H a xs ∧ TupI K H b ys ∧ xs.length = ys.length ∧ xs.length ≤ 100 ∧
  (inR (List.zipWith g xs ys) = true → ∀ v H', Ex H H' → TupI K H' v (List.zipWith g xs ys) → Q v H') ∧
  (inR (List.zipWith g xs ys) = false → ∀ v e H', Ex H H' → TupI K H' v (List.zipWith g xs ys) → H' e = some (.xd [("dimension", v)]) → E (.ref cH) (some e) H')
def baseV (bs : List Str) (n : Str) : List Int := bs.map fun b => if b = n then 1 else 0
def spBase (K : PySem.W.Frag) (cU : Addr) : Sp := fun vs H Q E => ∃ (p : Addr) (n : Str) (bs : List Str), vs = [.ref p, .str n] ∧ SqA K H p (bs.map V.str) ∧ bs.length ≤ 100 ∧ (n ∈ bs → ∀ v H', Ex H H' → TupI K H' v (baseV bs n) → Q v H') ∧
  (n ∉ bs → ∀ e H', Ex H H' → H' e = some (.xd [("name", .str n)]) → E (.ref cU) (some e) H')
theorem zw_get {g : Int → Int → Int} {xs ys : List Int} {i : Nat} {x y : V} (hx : (xs.map V.int)[i]? = some x) (hy : (ys.map V.int)[i]? = some y) : ∃ a b, x = .int a ∧ y = .int b ∧ (List.zipWith g xs ys)[i]? = some (g a b) := by
  obtain ⟨a, ha, rfl⟩ := int_get hx
  obtain ⟨b, hb, rfl⟩ := int_get hy
  exact ⟨a, b, rfl, rfl, by rw [List.getElem?_zipWith, ha, hb]⟩
/-- pairs of a sign and a term -/
def TermsAt (H : Hp) : List V → List (Int × Str) → Prop
  | [], [] => True
  | v :: vs, t :: ts => (∃ a, v = .ref a ∧ H a = some (.tup [.int t.1, .str t.2])) ∧ TermsAt H vs ts
  | _, _ => False
def spTerms : Sp := fun vs H Q E => ∃ z : Str, vs = [.str z] ∧ z.length ≤ 100000 ∧ ∀ p vs' H', Ex H H' → H' p = some (.lst vs') → TermsAt H' vs' (termsV z) → Q (.ref p) H'
def spPower (K : PySem.W.Frag) : Sp := fun vs H Q E => ∃ z : Str, vs = [.str z] ∧ z.length ≤ 100000 ∧ ∀ p H', Ex H H' → H' p = some (.tup [.str (powV z).1, .int (powV z).2]) → Q (.ref p) H'
def spRead (K : PySem.W.Frag) : Sp := fun vs H Q E => ∃ (z : Str) (p : Addr) (ns : List Str), vs = [.str z, .ref p] ∧ z.length ≤ 100000 ∧ SqA K H p (ns.map V.str) ∧ ns.Nodup ∧ ns.length ≤ 100 ∧ ∀ v H', Ex H H' → OptI K H' v (readV z ns) → Q v H'
def spWrite (K : PySem.W.Frag) : Sp := fun vs H Q E => ∃ (p q : Addr) (ns : List Str) (xs : List Int), vs = [.ref p, .ref q] ∧ SqA K H p (ns.map V.str) ∧ SqT K H q (xs.map V.int) ∧ ns.length = xs.length ∧ ns.length ≤ 20 ∧ (∀ n ∈ ns, n.length ≤ 12) ∧ inR xs = true ∧ ∀ H', Ex H H' → Q (.str (writV ns xs)) H'
def isNameD (d : PyData) : Bool := match d with
  | .str z => decide (1 ≤ z.length) && decide (z.length ≤ 12) && !decide (z ∈ wordsV) && z.cps.toList.all fun c => ("abcdefghijklmnopqrstuvwxyz" : Str).cps.toList.contains c
  | _ => false
def spIsName (K : PySem.W.Frag) : Sp := fun vs H Q E => ∃ v, vs = [v] ∧ ((∃ d, Dp K H v d ∧ (match d with | .str z => z.length ≤ 10000 | _ => True) ∧ Q (.bl (isNameD d)) H) ∨ (∃ a, v = .ref a ∧ H a = some (.dK [])) ∧ Q (.bl false) H)
/-! ### promises of the law's own -/
def spOwnNames : Sp := fun vs H Q E => ∃ b, vs = [.ref b] ∧ BagAt H b ∧ ∀ (p : Addr) (zs : List Str) H', 2 ≤ zs.length → zs.length ≤ 7 → Names zs → Kb b H H' → H' p = some (.lst (zs.map V.str)) → Q (.ref p) H'
def spExponent : Sp := fun vs H Q E => ∃ b, vs = [.ref b] ∧ BagAt H b ∧ ∀ (z : Str) H', z.length ≤ 3 → Kb b H H' → Q (.str z) H'
def spProduct (K : PySem.W.Frag) : Sp := fun vs H Q E => ∃ (b p : Addr) (zs : List Str), vs = [.ref b, .ref p] ∧ BagAt H b ∧ SqL K H p (zs.map V.str) ∧ 1 ≤ zs.length ∧ zs.length ≤ 100 ∧ (∀ z ∈ zs, z.length ≤ 12) ∧ ∀ (z : Str) H', z.length ≤ 500 → Kb b H H' → Q (.str z) H'
def spFigure : Sp := fun vs H Q E => ∃ z : Str, vs = [.str z] ∧ z.length ≤ 100000 ∧ Q (.int (figL z.cps.toList)) H
def spPowers (K : PySem.W.Frag) : Sp := fun vs H Q E => ∃ (z : Str) (p : Addr) (ns : List Str), vs = [.str z, .ref p] ∧ z.length ≤ 100000 ∧ SqL K H p (ns.map V.str) ∧ ns.Nodup ∧ ns.length ≤ 100 ∧ (∀ n ∈ ns, 32 ∉ n.cps.toList) ∧ ∀ v H', Ex H H' → OptI K H' v (readV z ns) → Q v H'
def spLWrite (K : PySem.W.Frag) : Sp := fun vs H Q E => ∃ (p q : Addr) (ns : List Str) (xs : List Int), vs = [.ref p, .ref q] ∧ SqL K H p (ns.map V.str) ∧ SqT K H q (xs.map V.int) ∧ ns.length = xs.length ∧ ns.length ≤ 20 ∧ (∀ n ∈ ns, n.length ≤ 12 ∧ PyData.strOk n = true) ∧ inR xs = true ∧ ∀ H', Ex H H' → Q (.str (writV ns xs)) H'
def spSame (K : PySem.W.Frag) : Sp := fun vs H Q E => ∃ v w o, vs = [v, w] ∧ OptI K H v o ∧ OptI K H w o ∧ Q (.bl true) H
def spRightReading (K : PySem.W.Frag) : Sp := fun vs H Q E => ∃ (z : Str) (p : Addr) (ns : List Str), vs = [.str z, .ref p] ∧ z.length ≤ 100000 ∧ SqL K H p (ns.map V.str) ∧ ns.Nodup ∧ ns.length ≤ 100 ∧ (∀ n ∈ ns, 32 ∉ n.cps.toList) ∧ ∀ H', Ex H H' → Q (.bl true) H'
def spSpoilt : Sp := fun vs H Q E => ∃ (b : Addr) (z : Str), vs = [.ref b, .str z] ∧ BagAt H b ∧ z.length ≤ 500 ∧ ∀ (x : Str) H', x.length ≤ 5000 → Kb b H H' → Q (.str x) H'
def spOddTexts : Sp := fun vs H Q E => ∃ a b : Str, vs = [.str a, .str b] ∧ a.length ≤ 12 ∧ b.length ≤ 12 ∧ ∀ p (zs : List Str) H', (∀ z ∈ zs, z.length ≤ 5000) → zs.length ≤ 200 → Ex H H' → H' p = some (.lst (zs.map V.str)) → Q (.ref p) H'
def spLongTexts : Sp := fun vs H Q E => vs = [] ∧ ∀ p (zs : List Str) H', (∀ z ∈ zs, z.length ≤ 5000) → zs.length ≤ 200 → Ex H H' → H' p = some (.lst (zs.map V.str)) → Q (.ref p) H'
def spMulTold (K : PySem.W.Frag) : Sp := fun vs H Q E => ∃ (a b : V) (way : Int) (xs ys : List Int), vs = [a, b, .int way] ∧ TupI K H a xs ∧ TupI K H b ys ∧ xs.length = ys.length ∧ xs.length ≤ 100 ∧
  ∀ q v H', Ex H H' → TupI K H' v (List.zipWith (fun x y => if way = 0 then x + y else x - y) xs ys) → H' q = some (.tup [.str (if inR (List.zipWith (fun x y => if way = 0 then x + y else x - y) xs ys) = true then "is" else "high"), v]) → Q (.ref q) H'
def spBaseTold (K : PySem.W.Frag) : Sp := fun vs H Q E => ∃ (p : Addr) (n : Str) (bs : List Str), vs = [.ref p, .str n] ∧ SqA K H p (bs.map V.str) ∧ bs.length ≤ 100 ∧ (n ∈ bs → ∀ q v H', Ex H H' → TupI K H' v (baseV bs n) → H' q = some (.tup [.str "is", v]) → Q (.ref q) H') ∧
  (n ∉ bs → ∀ q H', Ex H H' → H' q = some (.tup [.str "unknown", .str n]) → Q (.ref q) H')
def spDimension (K : PySem.W.Frag) : Sp := fun vs H Q E => ∃ (b : Addr) (m : Int), vs = [.ref b, .int m] ∧ BagAt H b ∧ 0 ≤ m ∧ m ≤ 100 ∧ ∀ (v : V) (xs : List Int) H', (xs.length : Int) = m → inR xs = true → Kb b H H' → TupI K H' v xs → Q v H'
def spRightProducts (K : PySem.W.Frag) : Sp := fun vs H Q E => ∃ (a b : V) (xs ys : List Int), vs = [a, b] ∧ TupI K H a xs ∧ TupI K H b ys ∧ xs.length = ys.length ∧ xs.length ≤ 100 ∧ ∀ H', Ex H H' → Q (.bl true) H'
def spRightKinds (K : PySem.W.Frag) : Sp := fun vs H Q E => ∃ (b : Addr) (a : V) (xs : List Int), vs = [.ref b, a] ∧ BagAt H b ∧ TupI K H a xs ∧ 1 ≤ xs.length ∧ xs.length ≤ 4 ∧ inR xs = true ∧ ∀ H', Kb b H H' → Q (.bl true) H'
def spRightBases (K : PySem.W.Frag) : Sp := fun vs H Q E => ∃ (p : Addr) (zs : List Str), vs = [.ref p] ∧ SqL K H p (zs.map V.str) ∧ Names zs ∧ 2 ≤ zs.length ∧ zs.length ≤ 7 ∧ ∀ H', Ex H H' → Q (.bl true) H'
def spRightNames (K : PySem.W.Frag) : Sp := fun vs H Q E => ∃ (p : Addr) (zs : List Str), vs = [.ref p] ∧ H p = some (.lst (zs.map V.str)) ∧ Names zs ∧ 2 ≤ zs.length ∧ zs.length ≤ 7 ∧ ∀ H', Ex H H' → Q (.bl true) H'
def spLaw (K : PySem.W.Frag) : Sp := fun vs H Q E => ∃ p ns, vs = [.ref p] ∧ SqL K H p (List.map V.int ns) ∧ ns.length ≤ 63 ∧ (∀ i ∈ ns, i.natAbs.log2 ≤ 1048576) ∧ ∀ H', Q (.bl true) H'
end Lw

set_option Elab.async false
set_option linter.all false
set_option maxRecDepth 100000
set_option maxHeartbeats 4000000
namespace Lw
open PySem PySem.Spec L2 Uv
open PyProof.Rows hiding St
local macro_rules | `(tactic| walk_at "umul") => `(tactic| fail)
local macro_rules | `(tactic| walk_at "us1") => `(tactic| first
  | (with_reducible refine s_seq ?_) | (with_reducible refine s_asg ?_) | (with_reducible refine s_gn ?_) | (with_reducible refine s_ret ?_) | (with_reducible refine s_drop ?_) | (with_reducible refine s_if ?_) | (with_reducible refine s_next ?_)
  | (with_reducible refine s_brk ?_) | (with_reducible refine s_cont ?_)
  | ((with_reducible refine' s_var ?hv ?_); (case hv => exact rfl)) | (with_reducible refine s_c ?_) | (with_reducible refine s_op ?_) | (with_reducible refine s_un ?_) | (with_reducible refine s_cb ?_) | (with_reducible refine s_call ?_)
  | (with_reducible refine s_cons ?_) | (with_reducible refine s_nil ?_) | (with_reducible refine s_test ?_) | (with_reducible refine s_tB ?_) | (with_reducible refine s_not ?_) | (with_reducible refine s_and ?_) | (with_reducible refine s_or ?_)
  | (with_reducible refine s_andV ?_) | (with_reducible refine s_orV ?_) | (with_reducible refine s_notV ?_) | (with_reducible refine s_ifE ?_) | (with_reducible refine s_bl ?_) | (with_reducible refine s_iT ?_) | (with_reducible refine s_iF ?_)
  | (with_reducible refine s_I0 ?_) | (with_reducible refine s_U ?_) | (with_reducible refine s_addI ?_) | (with_reducible refine s_eqI ?_) | (with_reducible refine s_eqS ?_) | (with_reducible refine s_eqB ?_) | (with_reducible refine s_neI ?_) | (with_reducible refine s_neS ?_) | (with_reducible refine s_neB ?_)
  | (with_reducible refine s_tupE ?_) | (with_reducible refine s_lstE ?_))
local macro_rules | `(tactic| walk_at "us") => `(tactic| repeat walk_at "us1")
local macro_rules | `(tactic| walk_at "ulen") => `(tactic| (intro vs H Q E h; repeat' (first | (obtain ⟨e, _⟩ := h; subst e; rfl) | (subst h; rfl) | (refine Or.elim h (fun h => ?_) (fun h => ?_)) | (obtain ⟨_, h⟩ := h))))
local macro_rules | `(tactic| walk_at "uk") => `(tactic| (try dsimp only [cxOf, Cx.suite, Cx.tr]))
local macro_rules | `(tactic| walk_at "us2") => `(tactic| first
  | walk_at "us1" | (with_reducible refine s_dput ?_) | ((with_reducible refine' s_mod ?hc ?_); (case hc => first | decide | assumption | omega))
  | (with_reducible refine s_for ?_) | (with_reducible refine s_lc ?_) | (with_reducible refine s_itl ?_) | (with_reducible refine s_itt ?_) | (with_reducible refine s_its ?_) | (with_reducible refine s_itr ?_) | (with_reducible refine s_itr2 ?_) | (with_reducible refine s_disp ?_) | (with_reducible refine s_prn ?_) | (with_reducible refine s_prc ?_) | (with_reducible refine s_m1 ?_) | (with_reducible refine s_isS ?_) | (with_reducible refine s_um1 ?_) | (with_reducible refine s_isB ?_) | (with_reducible refine s_isn ?_) | (with_reducible refine s_notn ?_) | (with_reducible refine s_jd ?_) | (with_reducible refine s_jn ?_) | (with_reducible refine s_jc ?_) | (with_reducible refine s_fmt ?_) | (with_reducible refine s_gc ?_) | (with_reducible refine s_gnil ?_) | (with_reducible refine s_yes ?_) | (with_reducible refine s_raise ?_)
  | ((with_reducible refine' s_pow ?hc ?_); (case hc => exact ⟨by decide, by decide, by decide⟩)) | (with_reducible refine s_int ?_) | (with_reducible refine s_intB ?_) | (with_reducible refine s_strS ?_) | (with_reducible refine s_abs ?_) | (with_reducible refine s_max ?_) | (with_reducible refine s_min ?_) | (with_reducible refine s_gcd ?_)
  | (with_reducible refine s_chain ?_) | (with_reducible refine s_sl ?_) | (with_reducible refine s_noP ?_) | (with_reducible refine s_part ?_) | (with_reducible refine s_exI ?_) 
  | ((with_reducible refine' s_mulI ?hc ?_); (case hc => first | exact Or.inl (Or.inr ⟨by decide, by decide⟩) | exact Or.inl (Or.inl ⟨by decide, by decide⟩) | exact Or.inl (Or.inl ⟨by omega, by omega⟩) | exact Or.inl (Or.inr ⟨by omega, by omega⟩) | walk_at "umul"))
  | ((with_reducible refine' s_ixT ?hc ?hd ?_); (case hc => assumption); (case hd => rfl))
  | ((with_reducible refine' s_lenL ?hc ?_); (case hc => first | assumption | exact SqL.of (by assumption))) | ((with_reducible refine' s_lenT ?hc ?_); (case hc => first | assumption | exact SqT.of (by assumption)))
  | ((with_reducible refine' s_divP ?hc ?hd ?_); (case hc => first | decide | assumption | omega); (case hd => first | decide +kernel | assumption)))
local macro_rules | `(tactic| walk_at "us") => `(tactic| repeat walk_at "us2")
local macro_rules | `(tactic| walk_at "uj") => `(tactic| ((walk_at "us"); with_reducible refine s_J ?_))
local macro_rules | `(tactic| walk_at "ua") => `(tactic| ((walk_at "us"); repeat ((first | (refine s_iF ?_) | (refine s_iT ?_)); (walk_at "us"))))
local macro_rules | `(tactic| walk_at "ub") => `(tactic| walk_at "ua")
local macro_rules | `(tactic| walk_at "ux1") => `(tactic| first
  | walk_at "us2" | ((with_reducible refine' s_ixL ?hc ?hd ?_); (case hc => first | assumption | exact SqL.of (by assumption)); (case hd => rfl)) | ((with_reducible refine' s_ixT ?hc ?hd ?_); (case hc => exact SqT.of (by assumption)); (case hd => rfl))
  | ((with_reducible refine' s_intS ?hc ?hd ?_); (case hc => assumption); (case hd => assumption)) | ((with_reducible refine' s_lenS ?hc ?_); (case hc => assumption)))
local macro_rules | `(tactic| walk_at "ux") => `(tactic| repeat walk_at "ux1")
local macro_rules | `(tactic| walk_at "uy") => `(tactic| ((walk_at "ux"); repeat ((first | (refine s_iF ?_) | (refine s_iT ?_)); (walk_at "ux"))))
local macro_rules | `(tactic| walk_at "uz0") => `(tactic| first
  | (with_reducible refine s_seq ?_) | (with_reducible refine s_asg ?_) | (with_reducible refine s_gn ?_) | (with_reducible refine s_ret ?_) | (with_reducible refine s_drop ?_) | (with_reducible refine s_if ?_) | (with_reducible refine s_next ?_)
  | (with_reducible refine s_brk ?_) | (with_reducible refine s_cont ?_)
  | ((with_reducible refine' s_var ?hv ?_); (case hv => exact rfl)) | (with_reducible refine s_c ?_) | (with_reducible refine s_op ?_) | (with_reducible refine s_un ?_) | (with_reducible refine s_cb ?_) | (with_reducible refine s_call ?_)
  | (with_reducible refine s_cons ?_) | (with_reducible refine s_nil ?_) | (with_reducible refine s_test ?_) | (with_reducible refine s_tB ?_) | (with_reducible refine s_not ?_) | (with_reducible refine s_and ?_) | (with_reducible refine s_or ?_)
  | (with_reducible refine s_andV ?_) | (with_reducible refine s_orV ?_) | (with_reducible refine s_notV ?_) | (with_reducible refine s_ifE ?_) | (with_reducible refine s_bl ?_) | (with_reducible refine s_iT ?_) | (with_reducible refine s_iF ?_)
  | (with_reducible refine s_I0 ?_) | (with_reducible refine s_U ?_) | (with_reducible refine s_addI ?_) | (with_reducible refine s_eqI ?_) | (with_reducible refine s_eqS ?_) | (with_reducible refine s_eqB ?_) | (with_reducible refine s_neI ?_) | (with_reducible refine s_neS ?_) | (with_reducible refine s_neB ?_))
local macro_rules | `(tactic| walk_at "uz2") => `(tactic| first
  | walk_at "uz0" | (with_reducible refine s_dput ?_) | ((with_reducible refine' s_mod ?hc ?_); (case hc => first | decide | assumption | omega))
  | (with_reducible refine s_for ?_) | (with_reducible refine s_lc ?_) | (with_reducible refine s_itl ?_) | (with_reducible refine s_itt ?_) | (with_reducible refine s_its ?_) | (with_reducible refine s_itr ?_) | (with_reducible refine s_itr2 ?_) | (with_reducible refine s_disp ?_) | (with_reducible refine s_prn ?_) | (with_reducible refine s_prc ?_) | (with_reducible refine s_m1 ?_) | (with_reducible refine s_isS ?_) | (with_reducible refine s_um1 ?_) | (with_reducible refine s_isB ?_) | (with_reducible refine s_isn ?_) | (with_reducible refine s_notn ?_) | (with_reducible refine s_jd ?_) | (with_reducible refine s_jn ?_) | (with_reducible refine s_jc ?_) | (with_reducible refine s_fmt ?_) | (with_reducible refine s_gc ?_) | (with_reducible refine s_gnil ?_) | (with_reducible refine s_yes ?_) | (with_reducible refine s_raise ?_)
  | ((with_reducible refine' s_pow ?hc ?_); (case hc => exact ⟨by decide, by decide, by decide⟩)) | (with_reducible refine s_int ?_) | (with_reducible refine s_intB ?_) | (with_reducible refine s_strS ?_) | (with_reducible refine s_abs ?_) | (with_reducible refine s_max ?_) | (with_reducible refine s_min ?_) | (with_reducible refine s_gcd ?_)
  | (with_reducible refine s_chain ?_) | (with_reducible refine s_sl ?_) | (with_reducible refine s_noP ?_) | (with_reducible refine s_part ?_) | (with_reducible refine s_exI ?_) 
  | ((with_reducible refine' s_mulI ?hc ?_); (case hc => first | exact Or.inl (Or.inr ⟨by decide, by decide⟩) | exact Or.inl (Or.inl ⟨by decide, by decide⟩) | exact Or.inl (Or.inl ⟨by omega, by omega⟩) | exact Or.inl (Or.inr ⟨by omega, by omega⟩) | walk_at "umul"))
  | ((with_reducible refine' s_ixT ?hc ?hd ?_); (case hc => assumption); (case hd => rfl))
  | ((with_reducible refine' s_lenL ?hc ?_); (case hc => first | assumption | exact SqL.of (by assumption))) | ((with_reducible refine' s_lenT ?hc ?_); (case hc => first | assumption | exact SqT.of (by assumption)))
  | ((with_reducible refine' s_divP ?hc ?hd ?_); (case hc => first | decide | assumption | omega); (case hd => first | decide +kernel | assumption)))
local macro_rules | `(tactic| walk_at "uz1") => `(tactic| first
  | walk_at "uz2" | ((with_reducible refine' s_ixL ?hc ?hd ?_); (case hc => first | assumption | exact SqL.of (by assumption)); (case hd => rfl)) | ((with_reducible refine' s_ixT ?hc ?hd ?_); (case hc => exact SqT.of (by assumption)); (case hd => rfl))
  | ((with_reducible refine' s_intS ?hc ?hd ?_); (case hc => assumption); (case hd => assumption)) | ((with_reducible refine' s_lenS ?hc ?_); (case hc => assumption)))
local macro_rules | `(tactic| walk_at "uz") => `(tactic| ((repeat walk_at "uz1"); repeat ((first | (refine s_iF ?_) | (refine s_iT ?_)); (repeat walk_at "uz1"))))
theorem pick_ix {ns : List Int} {at_ : Int} (h : 0 ≤ at_) (l : at_ < (ns.length : Int)) : ∃ z, atI (ns.map V.int) at_ = some (.int z) := by
  obtain ⟨j, rfl⟩ := Int.eq_ofNat_of_zero_le h
  exact ⟨_, atI_cell (by omega)⟩
section
variable {P : Program} {w : World} {K : PySem.W.Frag} {mg : Str → Option Value} {base : Heap}
variable {cE cH cU cW : Addr}
theorem ok_l_pick (T : Tp P K mg cE cH cU cW)
    {f : Addr} {fd : FuncData} {dvs : List V} (F : FunD K "_law_pick" "_law_pick" (defArgs s_l_pick) (defBody s_l_pick) (defScope s_l_pick) dvs [] f fd) : FnG P w K mg base 1 f fd P_l_pick (spPick) := by
  refine fng F sc_l_pick (by walk_at "ulen") (fun cdv A outer s H vs Q E hr0 hg0 h => ?_)
  have hr : Rm 0 (A.deeper (envOfC "_law_pick" (defScope s_l_pick) s.heap.objs.size f cdv)) := ⟨hr0, hg0⟩
  have nd : N_l_pick.Nodup := sc_l_pick.nd
  obtain ⟨b, m, rfl, hb, m0, m9, k⟩ := h
  obtain ⟨c, ns, at_, rest, mixed, count, B⟩ := hb
  refine ⟨_, (pss_cons (ps_dput (hu_of hr.r) (pv 0) pe_str (pe_op op_uAdd (pe_dget (hu_of hr.r) (pv 0) pe_str (fun _ _ => rfl)) pe_int) rfl)
    (pss_cons (ps_if (pt_cmpR op_gt (pe_dget (hu_of hr.r) (pv 0) pe_str (fun _ _ => rfl)) pe_int (nomark _)) (pss_cons (ps_set (i := 2) nd rfl (Or.inl rfl) (pe_dget (hu_of hr.r) (pv 0) pe_str (fun _ _ => rfl)))
    (pss_cons (ps_dput (hu_of hr.r) (pv 0) pe_str (pe_op op_uDiv (pv 2) (pv 1)) rfl)
    (pss_one (ps_ret (pe_op op_mod (pe_callTy call_uInt (by rfl) T.int b_int (pa_cons (pv 2) pa_nil)) (pv 1)))))) pss_nil)
    (pss_cons (ps_set (i := 3) nd rfl (Or.inl rfl) pe_int)
    (pss_consJ (ps_if (pt_cmpR op_lt (pe_dget (hu_of hr.r) (pv 0) pe_str (fun _ _ => rfl)) (pe_callB call_uLen (by rfl) T.len b_len (pa_cons (pe_dget (hu_of hr.r) (pv 0) pe_str (fun _ _ => rfl)) pa_nil)) (nomark _)) (pss_cons (ps_set (i := 3) nd rfl (Or.inl rfl) (pe_ix ix_seq (pe_dget (hu_of hr.r) (pv 0) pe_str (fun _ _ => rfl)) (pe_dget (hu_of hr.r) (pv 0) pe_str (fun _ _ => rfl)) (fun _ _ => rfl)))
    (pss_cons (ps_dput (hu_of hr.r) (pv 0) pe_str (pe_op op_uAdd (pe_dget (hu_of hr.r) (pv 0) pe_str (fun _ _ => rfl)) pe_int) rfl)
    (pss_one (ps_if (pt_cmpR op_ge (pv 3) (pe_op op_pow pe_int pe_int) (nomark _)) (pss_cons (ps_dput (hu_of hr.r) (pv 0) pe_str (pe_op op_uDiv (pv 3) (pv 1)) rfl)
    (pss_one (ps_ret (pe_op op_mod (pe_callTy call_uInt (by rfl) T.int b_int (pa_cons (pv 3) pa_nil)) (pv 1))))) pss_nil)))) pss_nil)
    (pss_cons (ps_set (i := 2) nd rfl (Or.inl rfl) (pe_op op_mod (pe_callTy call_uInt (by rfl) T.int b_int (pa_cons (pe_op op_uAdd (pe_op op_uAdd (pe_op op_uMul (pv 3) pe_int) (pe_op op_uMul (pe_dget (hu_of hr.r) (pv 0) pe_str (fun _ _ => rfl)) pe_int)) (pe_op op_uMul (pe_dget (hu_of hr.r) (pv 0) pe_str (fun _ _ => rfl)) pe_int)) pa_nil)) pe_int))
    (pss_cons (ps_set (i := 2) nd rfl (Or.inl rfl) (pe_op op_mod (pe_callTy call_uInt (by rfl) T.int b_int (pa_cons (pe_op op_uAdd (pe_op op_uMul (pv 2) pe_int) pe_int) pa_nil)) pe_int))
    (pss_cons (ps_dput (hu_of hr.r) (pv 0) pe_str (pe_op op_mod (pe_callTy call_uInt (by rfl) T.int b_int (pa_cons (pv 2) pa_nil)) pe_int) rfl)
    (pss_one (ps_ret (pe_op op_mod (pe_callTy call_uInt (by rfl) T.int b_int (pa_cons (pe_op op_uDiv (pv 2) pe_int) pa_nil)) (pv 1))))))))))), ?_⟩
  walk_at "uk"
  walk_at "us"
  refine s_bget B rfl bv_count ?_
  walk_at "us"
  refine s_bput B bp_count B.nn fun H1 B1 k1 => ?_
  walk_at "us"
  refine s_bget B1 rfl bv_rest ?_
  walk_at "us"
  refine s_ite (fun hr0 => ?_) (fun hr0 => ?_)
  · walk_at "us"
    refine s_bget B1 rfl bv_rest ?_
    walk_at "us"
    refine s_bput B1 bp_rest B.nn fun H2 B2 k2 => ?_
    walk_at "us"
    exact k _ _ (Int.emod_nonneg _ (by omega)) (Int.emod_lt_of_pos _ m0) (k1.tr k2)
  walk_at "uj"
  refine s_seqJ (fun σ H' => ∃ (z at' r' : Int), BagIs H' b c ns at' r' mixed (count + 1) ∧ Kb b H H' ∧ σ = (L2.start N_l_pick [V.ref b, V.int m]).set 3 (some (.int z))) (fun σ H2 ⟨z, at', r', B2, k2, e⟩ => ?_) (fun R hR => ?_)
  · subst e
    walk_at "us"
    refine s_bget B2 rfl bv_mixed ?_
    walk_at "us"
    refine s_bget B2 rfl bv_count ?_
    walk_at "us"
    refine s_bput B2 bp_mixed B2.nn fun H3 B3 k3 => ?_
    walk_at "us"
    exact k _ _ (Int.emod_nonneg _ (by omega)) (Int.emod_lt_of_pos _ m0) (k2.tr k3)
  walk_at "us"
  refine s_bget B1 rfl bv_at ?_
  walk_at "us"
  refine s_bget B1 rfl bv_cells ?_
  walk_at "us"
  refine s_lenL (.of B1.l) ?_
  walk_at "us"
  refine s_ite (fun hr1 => ?_) (fun hr1 => ?_)
  · walk_at "us"
    refine s_bget B1 rfl bv_cells ?_
    refine s_bget B1 rfl bv_at ?_
    obtain ⟨z, hz⟩ := pick_ix B1.nn (by simpa using hr1)
    refine s_ixL (.of B1.l) hz ?_
    walk_at "us"
    refine s_bget B1 rfl bv_at ?_
    walk_at "us"
    refine s_bput B1 bp_at (by have := B1.nn; omega) fun H2 B2 k2 => ?_
    walk_at "us"
    refine s_ite (fun hr2 => ?_) (fun hr2 => ?_)
    · walk_at "us"
      refine s_bput B2 bp_rest B2.nn fun H3 B3 k3 => ?_
      walk_at "us"
      exact k _ _ (Int.emod_nonneg _ (by omega)) (Int.emod_lt_of_pos _ m0) ((k1.tr k2).tr k3)
    walk_at "us"
    exact hR _ _ ⟨z, _, _, B2, k1.tr k2, rfl⟩
  walk_at "us"
  exact hR _ _ ⟨0, _, _, B1, k1, rfl⟩
end
end Lw

set_option Elab.async false
set_option linter.all false
set_option maxRecDepth 100000
set_option maxHeartbeats 4000000
namespace Lw
open PySem PySem.Spec L2 Uv
open PyProof.Rows hiding St
local macro_rules | `(tactic| walk_at "umul") => `(tactic| fail)
local macro_rules | `(tactic| walk_at "us1") => `(tactic| first
  | (with_reducible refine s_seq ?_) | (with_reducible refine s_asg ?_) | (with_reducible refine s_gn ?_) | (with_reducible refine s_ret ?_) | (with_reducible refine s_drop ?_) | (with_reducible refine s_if ?_) | (with_reducible refine s_next ?_)
  | (with_reducible refine s_brk ?_) | (with_reducible refine s_cont ?_)
  | ((with_reducible refine' s_var ?hv ?_); (case hv => exact rfl)) | (with_reducible refine s_c ?_) | (with_reducible refine s_op ?_) | (with_reducible refine s_un ?_) | (with_reducible refine s_cb ?_) | (with_reducible refine s_call ?_)
  | (with_reducible refine s_cons ?_) | (with_reducible refine s_nil ?_) | (with_reducible refine s_test ?_) | (with_reducible refine s_tB ?_) | (with_reducible refine s_not ?_) | (with_reducible refine s_and ?_) | (with_reducible refine s_or ?_)
  | (with_reducible refine s_andV ?_) | (with_reducible refine s_orV ?_) | (with_reducible refine s_notV ?_) | (with_reducible refine s_ifE ?_) | (with_reducible refine s_bl ?_) | (with_reducible refine s_iT ?_) | (with_reducible refine s_iF ?_)
  | (with_reducible refine s_I0 ?_) | (with_reducible refine s_U ?_) | (with_reducible refine s_addI ?_) | (with_reducible refine s_eqI ?_) | (with_reducible refine s_eqS ?_) | (with_reducible refine s_eqB ?_) | (with_reducible refine s_neI ?_) | (with_reducible refine s_neS ?_) | (with_reducible refine s_neB ?_)
  | (with_reducible refine s_tupE ?_) | (with_reducible refine s_lstE ?_))
local macro_rules | `(tactic| walk_at "us") => `(tactic| repeat walk_at "us1")
local macro_rules | `(tactic| walk_at "ulen") => `(tactic| (intro vs H Q E h; repeat' (first | (obtain ⟨e, _⟩ := h; subst e; rfl) | (subst h; rfl) | (refine Or.elim h (fun h => ?_) (fun h => ?_)) | (obtain ⟨_, h⟩ := h))))
local macro_rules | `(tactic| walk_at "uk") => `(tactic| (try dsimp only [cxOf, Cx.suite, Cx.tr]))
local macro_rules | `(tactic| walk_at "us2") => `(tactic| first
  | walk_at "us1" | (with_reducible refine s_dput ?_) | ((with_reducible refine' s_mod ?hc ?_); (case hc => first | decide | assumption | omega))
  | (with_reducible refine s_for ?_) | (with_reducible refine s_lc ?_) | (with_reducible refine s_itl ?_) | (with_reducible refine s_itt ?_) | (with_reducible refine s_its ?_) | (with_reducible refine s_itr ?_) | (with_reducible refine s_itr2 ?_) | (with_reducible refine s_disp ?_) | (with_reducible refine s_prn ?_) | (with_reducible refine s_prc ?_) | (with_reducible refine s_m1 ?_) | (with_reducible refine s_isS ?_) | (with_reducible refine s_um1 ?_) | (with_reducible refine s_isB ?_) | (with_reducible refine s_isn ?_) | (with_reducible refine s_notn ?_) | (with_reducible refine s_jd ?_) | (with_reducible refine s_jn ?_) | (with_reducible refine s_jc ?_) | (with_reducible refine s_fmt ?_) | (with_reducible refine s_gc ?_) | (with_reducible refine s_gnil ?_) | (with_reducible refine s_yes ?_) | (with_reducible refine s_raise ?_)
  | ((with_reducible refine' s_pow ?hc ?_); (case hc => exact ⟨by decide, by decide, by decide⟩)) | (with_reducible refine s_int ?_) | (with_reducible refine s_intB ?_) | (with_reducible refine s_strS ?_) | (with_reducible refine s_abs ?_) | (with_reducible refine s_max ?_) | (with_reducible refine s_min ?_) | (with_reducible refine s_gcd ?_)
  | (with_reducible refine s_chain ?_) | (with_reducible refine s_sl ?_) | (with_reducible refine s_noP ?_) | (with_reducible refine s_part ?_) | (with_reducible refine s_exI ?_) 
  | ((with_reducible refine' s_mulI ?hc ?_); (case hc => first | exact Or.inl (Or.inr ⟨by decide, by decide⟩) | exact Or.inl (Or.inl ⟨by decide, by decide⟩) | exact Or.inl (Or.inl ⟨by omega, by omega⟩) | exact Or.inl (Or.inr ⟨by omega, by omega⟩) | walk_at "umul"))
  | ((with_reducible refine' s_ixT ?hc ?hd ?_); (case hc => assumption); (case hd => rfl))
  | ((with_reducible refine' s_lenL ?hc ?_); (case hc => first | assumption | exact SqL.of (by assumption))) | ((with_reducible refine' s_lenT ?hc ?_); (case hc => first | assumption | exact SqT.of (by assumption)))
  | ((with_reducible refine' s_divP ?hc ?hd ?_); (case hc => first | decide | assumption | omega); (case hd => first | decide +kernel | assumption)))
local macro_rules | `(tactic| walk_at "us") => `(tactic| repeat walk_at "us2")
local macro_rules | `(tactic| walk_at "uj") => `(tactic| ((walk_at "us"); with_reducible refine s_J ?_))
local macro_rules | `(tactic| walk_at "ua") => `(tactic| ((walk_at "us"); repeat ((first | (refine s_iF ?_) | (refine s_iT ?_)); (walk_at "us"))))
local macro_rules | `(tactic| walk_at "ub") => `(tactic| walk_at "ua")
local macro_rules | `(tactic| walk_at "ux1") => `(tactic| first
  | walk_at "us2" | ((with_reducible refine' s_ixL ?hc ?hd ?_); (case hc => first | assumption | exact SqL.of (by assumption)); (case hd => rfl)) | ((with_reducible refine' s_ixT ?hc ?hd ?_); (case hc => exact SqT.of (by assumption)); (case hd => rfl))
  | ((with_reducible refine' s_intS ?hc ?hd ?_); (case hc => assumption); (case hd => assumption)) | ((with_reducible refine' s_lenS ?hc ?_); (case hc => assumption)))
local macro_rules | `(tactic| walk_at "ux") => `(tactic| repeat walk_at "ux1")
local macro_rules | `(tactic| walk_at "uy") => `(tactic| ((walk_at "ux"); repeat ((first | (refine s_iF ?_) | (refine s_iT ?_)); (walk_at "ux"))))
local macro_rules | `(tactic| walk_at "uz0") => `(tactic| first
  | (with_reducible refine s_seq ?_) | (with_reducible refine s_asg ?_) | (with_reducible refine s_gn ?_) | (with_reducible refine s_ret ?_) | (with_reducible refine s_drop ?_) | (with_reducible refine s_if ?_) | (with_reducible refine s_next ?_)
  | (with_reducible refine s_brk ?_) | (with_reducible refine s_cont ?_)
  | ((with_reducible refine' s_var ?hv ?_); (case hv => exact rfl)) | (with_reducible refine s_c ?_) | (with_reducible refine s_op ?_) | (with_reducible refine s_un ?_) | (with_reducible refine s_cb ?_) | (with_reducible refine s_call ?_)
  | (with_reducible refine s_cons ?_) | (with_reducible refine s_nil ?_) | (with_reducible refine s_test ?_) | (with_reducible refine s_tB ?_) | (with_reducible refine s_not ?_) | (with_reducible refine s_and ?_) | (with_reducible refine s_or ?_)
  | (with_reducible refine s_andV ?_) | (with_reducible refine s_orV ?_) | (with_reducible refine s_notV ?_) | (with_reducible refine s_ifE ?_) | (with_reducible refine s_bl ?_) | (with_reducible refine s_iT ?_) | (with_reducible refine s_iF ?_)
  | (with_reducible refine s_I0 ?_) | (with_reducible refine s_U ?_) | (with_reducible refine s_addI ?_) | (with_reducible refine s_eqI ?_) | (with_reducible refine s_eqS ?_) | (with_reducible refine s_eqB ?_) | (with_reducible refine s_neI ?_) | (with_reducible refine s_neS ?_) | (with_reducible refine s_neB ?_))
local macro_rules | `(tactic| walk_at "uz2") => `(tactic| first
  | walk_at "uz0" | (with_reducible refine s_dput ?_) | ((with_reducible refine' s_mod ?hc ?_); (case hc => first | decide | assumption | omega))
  | (with_reducible refine s_for ?_) | (with_reducible refine s_lc ?_) | (with_reducible refine s_itl ?_) | (with_reducible refine s_itt ?_) | (with_reducible refine s_its ?_) | (with_reducible refine s_itr ?_) | (with_reducible refine s_itr2 ?_) | (with_reducible refine s_disp ?_) | (with_reducible refine s_prn ?_) | (with_reducible refine s_prc ?_) | (with_reducible refine s_m1 ?_) | (with_reducible refine s_isS ?_) | (with_reducible refine s_um1 ?_) | (with_reducible refine s_isB ?_) | (with_reducible refine s_isn ?_) | (with_reducible refine s_notn ?_) | (with_reducible refine s_jd ?_) | (with_reducible refine s_jn ?_) | (with_reducible refine s_jc ?_) | (with_reducible refine s_fmt ?_) | (with_reducible refine s_gc ?_) | (with_reducible refine s_gnil ?_) | (with_reducible refine s_yes ?_) | (with_reducible refine s_raise ?_)
  | ((with_reducible refine' s_pow ?hc ?_); (case hc => exact ⟨by decide, by decide, by decide⟩)) | (with_reducible refine s_int ?_) | (with_reducible refine s_intB ?_) | (with_reducible refine s_strS ?_) | (with_reducible refine s_abs ?_) | (with_reducible refine s_max ?_) | (with_reducible refine s_min ?_) | (with_reducible refine s_gcd ?_)
  | (with_reducible refine s_chain ?_) | (with_reducible refine s_sl ?_) | (with_reducible refine s_noP ?_) | (with_reducible refine s_part ?_) | (with_reducible refine s_exI ?_) 
  | ((with_reducible refine' s_mulI ?hc ?_); (case hc => first | exact Or.inl (Or.inr ⟨by decide, by decide⟩) | exact Or.inl (Or.inl ⟨by decide, by decide⟩) | exact Or.inl (Or.inl ⟨by omega, by omega⟩) | exact Or.inl (Or.inr ⟨by omega, by omega⟩) | walk_at "umul"))
  | ((with_reducible refine' s_ixT ?hc ?hd ?_); (case hc => assumption); (case hd => rfl))
  | ((with_reducible refine' s_lenL ?hc ?_); (case hc => first | assumption | exact SqL.of (by assumption))) | ((with_reducible refine' s_lenT ?hc ?_); (case hc => first | assumption | exact SqT.of (by assumption)))
  | ((with_reducible refine' s_divP ?hc ?hd ?_); (case hc => first | decide | assumption | omega); (case hd => first | decide +kernel | assumption)))
local macro_rules | `(tactic| walk_at "uz1") => `(tactic| first
  | walk_at "uz2" | ((with_reducible refine' s_ixL ?hc ?hd ?_); (case hc => first | assumption | exact SqL.of (by assumption)); (case hd => rfl)) | ((with_reducible refine' s_ixT ?hc ?hd ?_); (case hc => exact SqT.of (by assumption)); (case hd => rfl))
  | ((with_reducible refine' s_intS ?hc ?hd ?_); (case hc => assumption); (case hd => assumption)) | ((with_reducible refine' s_lenS ?hc ?_); (case hc => assumption)))
local macro_rules | `(tactic| walk_at "uz") => `(tactic| ((repeat walk_at "uz1"); repeat ((first | (refine s_iF ?_) | (refine s_iT ?_)); (repeat walk_at "uz1"))))
section
variable {P : Program} {w : World} {K : PySem.W.Frag} {mg : Str → Option Value} {base : Heap}
variable {cE cH cU cW : Addr}
theorem ok_l_one_in (T : Tp P K mg cE cH cU cW)
    (c_l_pick : Cal P w K mg base 1 "_law_pick" P_l_pick [] (spPick))
    {f : Addr} {fd : FuncData} {dvs : List V} (F : FunD K "_law_one_in" "_law_one_in" (defArgs s_l_one_in) (defBody s_l_one_in) (defScope s_l_one_in) dvs [] f fd) : FnG P w K mg base 2 f fd P_l_one_in (spOne) := by
  refine fng F sc_l_one_in (by walk_at "ulen") (fun cdv A outer s H vs Q E hr0 hg0 h => ?_)
  have hr : Rm 1 (A.deeper (envOfC "_law_one_in" (defScope s_l_one_in) s.heap.objs.size f cdv)) := ⟨hr0, hg0⟩
  have nd : N_l_one_in.Nodup := sc_l_one_in.nd
  obtain ⟨b, m, rfl, hb, m0, m9, k⟩ := h
  refine ⟨_, (pss_one (ps_ret (pe_cmpR (op_uEq hr.r.units) (pe_c (E := En) c_l_pick (hr.mono (by decide)) paN (pa_cons (pv 0) (pa_cons (pv 1) pa_nil))) pe_int (nomark _)))), ?_⟩
  walk_at "uk"
  walk_at "us"
  refine ⟨b, m, rfl, hb, m0, m9, fun r H' r0 r1 kb => ?_⟩
  walk_at "us"
  exact k _ _ kb
end
end Lw

set_option Elab.async false
set_option linter.all false
set_option maxRecDepth 100000
set_option maxHeartbeats 4000000
namespace Lw
open PySem PySem.Spec L2 Uv
open PyProof.Rows hiding St
local macro_rules | `(tactic| walk_at "umul") => `(tactic| fail)
local macro_rules | `(tactic| walk_at "us1") => `(tactic| first
  | (with_reducible refine s_seq ?_) | (with_reducible refine s_asg ?_) | (with_reducible refine s_gn ?_) | (with_reducible refine s_ret ?_) | (with_reducible refine s_drop ?_) | (with_reducible refine s_if ?_) | (with_reducible refine s_next ?_)
  | (with_reducible refine s_brk ?_) | (with_reducible refine s_cont ?_)
  | ((with_reducible refine' s_var ?hv ?_); (case hv => exact rfl)) | (with_reducible refine s_c ?_) | (with_reducible refine s_op ?_) | (with_reducible refine s_un ?_) | (with_reducible refine s_cb ?_) | (with_reducible refine s_call ?_)
  | (with_reducible refine s_cons ?_) | (with_reducible refine s_nil ?_) | (with_reducible refine s_test ?_) | (with_reducible refine s_tB ?_) | (with_reducible refine s_not ?_) | (with_reducible refine s_and ?_) | (with_reducible refine s_or ?_)
  | (with_reducible refine s_andV ?_) | (with_reducible refine s_orV ?_) | (with_reducible refine s_notV ?_) | (with_reducible refine s_ifE ?_) | (with_reducible refine s_bl ?_) | (with_reducible refine s_iT ?_) | (with_reducible refine s_iF ?_)
  | (with_reducible refine s_I0 ?_) | (with_reducible refine s_U ?_) | (with_reducible refine s_addI ?_) | (with_reducible refine s_eqI ?_) | (with_reducible refine s_eqS ?_) | (with_reducible refine s_eqB ?_) | (with_reducible refine s_neI ?_) | (with_reducible refine s_neS ?_) | (with_reducible refine s_neB ?_)
  | (with_reducible refine s_tupE ?_) | (with_reducible refine s_lstE ?_))
local macro_rules | `(tactic| walk_at "us") => `(tactic| repeat walk_at "us1")
local macro_rules | `(tactic| walk_at "ulen") => `(tactic| (intro vs H Q E h; repeat' (first | (obtain ⟨e, _⟩ := h; subst e; rfl) | (subst h; rfl) | (refine Or.elim h (fun h => ?_) (fun h => ?_)) | (obtain ⟨_, h⟩ := h))))
local macro_rules | `(tactic| walk_at "uk") => `(tactic| (try dsimp only [cxOf, Cx.suite, Cx.tr]))
local macro_rules | `(tactic| walk_at "us2") => `(tactic| first
  | walk_at "us1" | (with_reducible refine s_dput ?_) | ((with_reducible refine' s_mod ?hc ?_); (case hc => first | decide | assumption | omega))
  | (with_reducible refine s_for ?_) | (with_reducible refine s_lc ?_) | (with_reducible refine s_itl ?_) | (with_reducible refine s_itt ?_) | (with_reducible refine s_its ?_) | (with_reducible refine s_itr ?_) | (with_reducible refine s_itr2 ?_) | (with_reducible refine s_disp ?_) | (with_reducible refine s_prn ?_) | (with_reducible refine s_prc ?_) | (with_reducible refine s_m1 ?_) | (with_reducible refine s_isS ?_) | (with_reducible refine s_um1 ?_) | (with_reducible refine s_isB ?_) | (with_reducible refine s_isn ?_) | (with_reducible refine s_notn ?_) | (with_reducible refine s_jd ?_) | (with_reducible refine s_jn ?_) | (with_reducible refine s_jc ?_) | (with_reducible refine s_fmt ?_) | (with_reducible refine s_gc ?_) | (with_reducible refine s_gnil ?_) | (with_reducible refine s_yes ?_) | (with_reducible refine s_raise ?_)
  | ((with_reducible refine' s_pow ?hc ?_); (case hc => exact ⟨by decide, by decide, by decide⟩)) | (with_reducible refine s_int ?_) | (with_reducible refine s_intB ?_) | (with_reducible refine s_strS ?_) | (with_reducible refine s_abs ?_) | (with_reducible refine s_max ?_) | (with_reducible refine s_min ?_) | (with_reducible refine s_gcd ?_)
  | (with_reducible refine s_chain ?_) | (with_reducible refine s_sl ?_) | (with_reducible refine s_noP ?_) | (with_reducible refine s_part ?_) | (with_reducible refine s_exI ?_) 
  | ((with_reducible refine' s_mulI ?hc ?_); (case hc => first | exact Or.inl (Or.inr ⟨by decide, by decide⟩) | exact Or.inl (Or.inl ⟨by decide, by decide⟩) | exact Or.inl (Or.inl ⟨by omega, by omega⟩) | exact Or.inl (Or.inr ⟨by omega, by omega⟩) | walk_at "umul"))
  | ((with_reducible refine' s_ixT ?hc ?hd ?_); (case hc => assumption); (case hd => rfl))
  | ((with_reducible refine' s_lenL ?hc ?_); (case hc => first | assumption | exact SqL.of (by assumption))) | ((with_reducible refine' s_lenT ?hc ?_); (case hc => first | assumption | exact SqT.of (by assumption)))
  | ((with_reducible refine' s_divP ?hc ?hd ?_); (case hc => first | decide | assumption | omega); (case hd => first | decide +kernel | assumption)))
local macro_rules | `(tactic| walk_at "us") => `(tactic| repeat walk_at "us2")
local macro_rules | `(tactic| walk_at "uj") => `(tactic| ((walk_at "us"); with_reducible refine s_J ?_))
local macro_rules | `(tactic| walk_at "ua") => `(tactic| ((walk_at "us"); repeat ((first | (refine s_iF ?_) | (refine s_iT ?_)); (walk_at "us"))))
local macro_rules | `(tactic| walk_at "ub") => `(tactic| walk_at "ua")
local macro_rules | `(tactic| walk_at "ux1") => `(tactic| first
  | walk_at "us2" | ((with_reducible refine' s_ixL ?hc ?hd ?_); (case hc => first | assumption | exact SqL.of (by assumption)); (case hd => rfl)) | ((with_reducible refine' s_ixT ?hc ?hd ?_); (case hc => exact SqT.of (by assumption)); (case hd => rfl))
  | ((with_reducible refine' s_intS ?hc ?hd ?_); (case hc => assumption); (case hd => assumption)) | ((with_reducible refine' s_lenS ?hc ?_); (case hc => assumption)))
local macro_rules | `(tactic| walk_at "ux") => `(tactic| repeat walk_at "ux1")
local macro_rules | `(tactic| walk_at "uy") => `(tactic| ((walk_at "ux"); repeat ((first | (refine s_iF ?_) | (refine s_iT ?_)); (walk_at "ux"))))
local macro_rules | `(tactic| walk_at "uz0") => `(tactic| first
  | (with_reducible refine s_seq ?_) | (with_reducible refine s_asg ?_) | (with_reducible refine s_gn ?_) | (with_reducible refine s_ret ?_) | (with_reducible refine s_drop ?_) | (with_reducible refine s_if ?_) | (with_reducible refine s_next ?_)
  | (with_reducible refine s_brk ?_) | (with_reducible refine s_cont ?_)
  | ((with_reducible refine' s_var ?hv ?_); (case hv => exact rfl)) | (with_reducible refine s_c ?_) | (with_reducible refine s_op ?_) | (with_reducible refine s_un ?_) | (with_reducible refine s_cb ?_) | (with_reducible refine s_call ?_)
  | (with_reducible refine s_cons ?_) | (with_reducible refine s_nil ?_) | (with_reducible refine s_test ?_) | (with_reducible refine s_tB ?_) | (with_reducible refine s_not ?_) | (with_reducible refine s_and ?_) | (with_reducible refine s_or ?_)
  | (with_reducible refine s_andV ?_) | (with_reducible refine s_orV ?_) | (with_reducible refine s_notV ?_) | (with_reducible refine s_ifE ?_) | (with_reducible refine s_bl ?_) | (with_reducible refine s_iT ?_) | (with_reducible refine s_iF ?_)
  | (with_reducible refine s_I0 ?_) | (with_reducible refine s_U ?_) | (with_reducible refine s_addI ?_) | (with_reducible refine s_eqI ?_) | (with_reducible refine s_eqS ?_) | (with_reducible refine s_eqB ?_) | (with_reducible refine s_neI ?_) | (with_reducible refine s_neS ?_) | (with_reducible refine s_neB ?_))
local macro_rules | `(tactic| walk_at "uz2") => `(tactic| first
  | walk_at "uz0" | (with_reducible refine s_dput ?_) | ((with_reducible refine' s_mod ?hc ?_); (case hc => first | decide | assumption | omega))
  | (with_reducible refine s_for ?_) | (with_reducible refine s_lc ?_) | (with_reducible refine s_itl ?_) | (with_reducible refine s_itt ?_) | (with_reducible refine s_its ?_) | (with_reducible refine s_itr ?_) | (with_reducible refine s_itr2 ?_) | (with_reducible refine s_disp ?_) | (with_reducible refine s_prn ?_) | (with_reducible refine s_prc ?_) | (with_reducible refine s_m1 ?_) | (with_reducible refine s_isS ?_) | (with_reducible refine s_um1 ?_) | (with_reducible refine s_isB ?_) | (with_reducible refine s_isn ?_) | (with_reducible refine s_notn ?_) | (with_reducible refine s_jd ?_) | (with_reducible refine s_jn ?_) | (with_reducible refine s_jc ?_) | (with_reducible refine s_fmt ?_) | (with_reducible refine s_gc ?_) | (with_reducible refine s_gnil ?_) | (with_reducible refine s_yes ?_) | (with_reducible refine s_raise ?_)
  | ((with_reducible refine' s_pow ?hc ?_); (case hc => exact ⟨by decide, by decide, by decide⟩)) | (with_reducible refine s_int ?_) | (with_reducible refine s_intB ?_) | (with_reducible refine s_strS ?_) | (with_reducible refine s_abs ?_) | (with_reducible refine s_max ?_) | (with_reducible refine s_min ?_) | (with_reducible refine s_gcd ?_)
  | (with_reducible refine s_chain ?_) | (with_reducible refine s_sl ?_) | (with_reducible refine s_noP ?_) | (with_reducible refine s_part ?_) | (with_reducible refine s_exI ?_) 
  | ((with_reducible refine' s_mulI ?hc ?_); (case hc => first | exact Or.inl (Or.inr ⟨by decide, by decide⟩) | exact Or.inl (Or.inl ⟨by decide, by decide⟩) | exact Or.inl (Or.inl ⟨by omega, by omega⟩) | exact Or.inl (Or.inr ⟨by omega, by omega⟩) | walk_at "umul"))
  | ((with_reducible refine' s_ixT ?hc ?hd ?_); (case hc => assumption); (case hd => rfl))
  | ((with_reducible refine' s_lenL ?hc ?_); (case hc => first | assumption | exact SqL.of (by assumption))) | ((with_reducible refine' s_lenT ?hc ?_); (case hc => first | assumption | exact SqT.of (by assumption)))
  | ((with_reducible refine' s_divP ?hc ?hd ?_); (case hc => first | decide | assumption | omega); (case hd => first | decide +kernel | assumption)))
local macro_rules | `(tactic| walk_at "uz1") => `(tactic| first
  | walk_at "uz2" | ((with_reducible refine' s_ixL ?hc ?hd ?_); (case hc => first | assumption | exact SqL.of (by assumption)); (case hd => rfl)) | ((with_reducible refine' s_ixT ?hc ?hd ?_); (case hc => exact SqT.of (by assumption)); (case hd => rfl))
  | ((with_reducible refine' s_intS ?hc ?hd ?_); (case hc => assumption); (case hd => assumption)) | ((with_reducible refine' s_lenS ?hc ?_); (case hc => assumption)))
local macro_rules | `(tactic| walk_at "uz") => `(tactic| ((repeat walk_at "uz1"); repeat ((first | (refine s_iF ?_) | (refine s_iT ?_)); (repeat walk_at "uz1"))))
theorem mem_ix {xs : List V} {r : Int} (h0 : 0 ≤ r) (h1 : r < (xs.length : Int)) : ∃ v, atI xs r = some v ∧ v ∈ xs := by
  obtain ⟨j, rfl⟩ := Int.eq_ofNat_of_zero_le h0
  have hj : j < xs.length := by omega
  exact ⟨_, atI_nat (List.getElem?_eq_getElem hj), List.getElem_mem hj⟩
theorem ix_str {z : Str} {r : Int} (h0 : 0 ≤ r) (h1 : r < (z.length : Int)) : ∃ c, atI z.cps.toList r = some c ∧ c ∈ z.cps.toList := by
  obtain ⟨j, rfl⟩ := Int.eq_ofNat_of_zero_le h0
  have hj : j < z.cps.toList.length := by
    have : (z.length : Int) = z.cps.toList.length := by simp [PySem.Str.length]
    omega
  exact ⟨_, atI_nat (List.getElem?_eq_getElem hj), List.getElem_mem hj⟩
theorem log_small {n : Nat} (h : n ≤ 10000) : ((n : Int)).natAbs.log2 < 9000 := by
  have : (n : Int).natAbs = n := rfl
  rw [this]
  by_cases z : n = 0
  · subst z; decide
  · have := (Nat.log2_lt z (k := 14)).mpr (by omega)
    omega
section
variable {P : Program} {w : World} {K : PySem.W.Frag} {mg : Str → Option Value} {base : Heap}
variable {cE cH cU cW : Addr}
theorem ok_l_choice (T : Tp P K mg cE cH cU cW)
    (c_l_pick : Cal P w K mg base 1 "_law_pick" P_l_pick [] (spPick))
    {f : Addr} {fd : FuncData} {dvs : List V} (F : FunD K "_law_choice" "_law_choice" (defArgs s_l_choice) (defBody s_l_choice) (defScope s_l_choice) dvs [] f fd) : FnG P w K mg base 2 f fd P_l_choice (spChoice K) := by
  refine fng F sc_l_choice (by walk_at "ulen") (fun cdv A outer s H vs Q E hr0 hg0 h => ?_)
  have hr : Rm 1 (A.deeper (envOfC "_law_choice" (defScope s_l_choice) s.heap.objs.size f cdv)) := ⟨hr0, hg0⟩
  have nd : N_l_choice.Nodup := sc_l_choice.nd
  refine ⟨_, (pss_one (ps_ret (pe_ix ix_seq (pv 1) (pe_c (E := En) c_l_pick (hr.mono (by decide)) paN (pa_cons (pv 0) (pa_cons (pe_callB call_uLen (by rfl) T.len b_len (pa_cons (pv 1) pa_nil)) pa_nil))) (fun _ _ => rfl)))), ?_⟩
  walk_at "uk"
  obtain ⟨b, hb, ⟨p, xs, rfl, hp, l0, l9, k⟩ | ⟨z, rfl, l0, l9, k⟩⟩ := h
  · walk_at "us"
    refine ⟨b, _, rfl, hb, by omega, log_small (by omega), fun r H' r0 r1 kb => ?_⟩
    obtain ⟨v, hv, hm⟩ := mem_ix r0 r1
    refine s_ixL (kb.l hp) hv ?_
    exact k _ _ hm kb
  · walk_at "us"
    refine s_lenS (by show z.length ≤ 16777216; omega) ?_
    walk_at "us"
    refine ⟨b, _, rfl, hb, by omega, log_small (by omega), fun r H' r0 r1 kb => ?_⟩
    obtain ⟨c, hc, hm⟩ := ix_str r0 r1
    refine s_ixS (by show z.length ≤ 16777216; omega) hc ?_
    exact k _ _ hm kb
end
end Lw

set_option Elab.async false
set_option linter.all false
set_option maxRecDepth 100000
set_option maxHeartbeats 4000000
namespace Lw
open PySem PySem.Spec L2 Uv
open PyProof.Rows hiding St
local macro_rules | `(tactic| walk_at "umul") => `(tactic| fail)
local macro_rules | `(tactic| walk_at "us1") => `(tactic| first
  | (with_reducible refine s_seq ?_) | (with_reducible refine s_asg ?_) | (with_reducible refine s_gn ?_) | (with_reducible refine s_ret ?_) | (with_reducible refine s_drop ?_) | (with_reducible refine s_if ?_) | (with_reducible refine s_next ?_)
  | (with_reducible refine s_brk ?_) | (with_reducible refine s_cont ?_)
  | ((with_reducible refine' s_var ?hv ?_); (case hv => exact rfl)) | (with_reducible refine s_c ?_) | (with_reducible refine s_op ?_) | (with_reducible refine s_un ?_) | (with_reducible refine s_cb ?_) | (with_reducible refine s_call ?_)
  | (with_reducible refine s_cons ?_) | (with_reducible refine s_nil ?_) | (with_reducible refine s_test ?_) | (with_reducible refine s_tB ?_) | (with_reducible refine s_not ?_) | (with_reducible refine s_and ?_) | (with_reducible refine s_or ?_)
  | (with_reducible refine s_andV ?_) | (with_reducible refine s_orV ?_) | (with_reducible refine s_notV ?_) | (with_reducible refine s_ifE ?_) | (with_reducible refine s_bl ?_) | (with_reducible refine s_iT ?_) | (with_reducible refine s_iF ?_)
  | (with_reducible refine s_I0 ?_) | (with_reducible refine s_U ?_) | (with_reducible refine s_addI ?_) | (with_reducible refine s_eqI ?_) | (with_reducible refine s_eqS ?_) | (with_reducible refine s_eqB ?_) | (with_reducible refine s_neI ?_) | (with_reducible refine s_neS ?_) | (with_reducible refine s_neB ?_)
  | (with_reducible refine s_tupE ?_) | (with_reducible refine s_lstE ?_))
local macro_rules | `(tactic| walk_at "us") => `(tactic| repeat walk_at "us1")
local macro_rules | `(tactic| walk_at "ulen") => `(tactic| (intro vs H Q E h; repeat' (first | (obtain ⟨e, _⟩ := h; subst e; rfl) | (subst h; rfl) | (refine Or.elim h (fun h => ?_) (fun h => ?_)) | (obtain ⟨_, h⟩ := h))))
local macro_rules | `(tactic| walk_at "uk") => `(tactic| (try dsimp only [cxOf, Cx.suite, Cx.tr]))
local macro_rules | `(tactic| walk_at "us2") => `(tactic| first
  | walk_at "us1" | (with_reducible refine s_dput ?_) | ((with_reducible refine' s_mod ?hc ?_); (case hc => first | decide | assumption | omega))
  | (with_reducible refine s_for ?_) | (with_reducible refine s_lc ?_) | (with_reducible refine s_itl ?_) | (with_reducible refine s_itt ?_) | (with_reducible refine s_its ?_) | (with_reducible refine s_itr ?_) | (with_reducible refine s_itr2 ?_) | (with_reducible refine s_disp ?_) | (with_reducible refine s_prn ?_) | (with_reducible refine s_prc ?_) | (with_reducible refine s_m1 ?_) | (with_reducible refine s_isS ?_) | (with_reducible refine s_um1 ?_) | (with_reducible refine s_isB ?_) | (with_reducible refine s_isn ?_) | (with_reducible refine s_notn ?_) | (with_reducible refine s_jd ?_) | (with_reducible refine s_jn ?_) | (with_reducible refine s_jc ?_) | (with_reducible refine s_fmt ?_) | (with_reducible refine s_gc ?_) | (with_reducible refine s_gnil ?_) | (with_reducible refine s_yes ?_) | (with_reducible refine s_raise ?_)
  | ((with_reducible refine' s_pow ?hc ?_); (case hc => exact ⟨by decide, by decide, by decide⟩)) | (with_reducible refine s_int ?_) | (with_reducible refine s_intB ?_) | (with_reducible refine s_strS ?_) | (with_reducible refine s_abs ?_) | (with_reducible refine s_max ?_) | (with_reducible refine s_min ?_) | (with_reducible refine s_gcd ?_)
  | (with_reducible refine s_chain ?_) | (with_reducible refine s_sl ?_) | (with_reducible refine s_noP ?_) | (with_reducible refine s_part ?_) | (with_reducible refine s_exI ?_) 
  | ((with_reducible refine' s_mulI ?hc ?_); (case hc => first | exact Or.inl (Or.inr ⟨by decide, by decide⟩) | exact Or.inl (Or.inl ⟨by decide, by decide⟩) | exact Or.inl (Or.inl ⟨by omega, by omega⟩) | exact Or.inl (Or.inr ⟨by omega, by omega⟩) | walk_at "umul"))
  | ((with_reducible refine' s_ixT ?hc ?hd ?_); (case hc => assumption); (case hd => rfl))
  | ((with_reducible refine' s_lenL ?hc ?_); (case hc => first | assumption | exact SqL.of (by assumption))) | ((with_reducible refine' s_lenT ?hc ?_); (case hc => first | assumption | exact SqT.of (by assumption)))
  | ((with_reducible refine' s_divP ?hc ?hd ?_); (case hc => first | decide | assumption | omega); (case hd => first | decide +kernel | assumption)))
local macro_rules | `(tactic| walk_at "us") => `(tactic| repeat walk_at "us2")
local macro_rules | `(tactic| walk_at "uj") => `(tactic| ((walk_at "us"); with_reducible refine s_J ?_))
local macro_rules | `(tactic| walk_at "ua") => `(tactic| ((walk_at "us"); repeat ((first | (refine s_iF ?_) | (refine s_iT ?_)); (walk_at "us"))))
local macro_rules | `(tactic| walk_at "ub") => `(tactic| walk_at "ua")
local macro_rules | `(tactic| walk_at "ux1") => `(tactic| first
  | walk_at "us2" | ((with_reducible refine' s_ixL ?hc ?hd ?_); (case hc => first | assumption | exact SqL.of (by assumption)); (case hd => rfl)) | ((with_reducible refine' s_ixT ?hc ?hd ?_); (case hc => exact SqT.of (by assumption)); (case hd => rfl))
  | ((with_reducible refine' s_intS ?hc ?hd ?_); (case hc => assumption); (case hd => assumption)) | ((with_reducible refine' s_lenS ?hc ?_); (case hc => assumption)))
local macro_rules | `(tactic| walk_at "ux") => `(tactic| repeat walk_at "ux1")
local macro_rules | `(tactic| walk_at "uy") => `(tactic| ((walk_at "ux"); repeat ((first | (refine s_iF ?_) | (refine s_iT ?_)); (walk_at "ux"))))
local macro_rules | `(tactic| walk_at "uz0") => `(tactic| first
  | (with_reducible refine s_seq ?_) | (with_reducible refine s_asg ?_) | (with_reducible refine s_gn ?_) | (with_reducible refine s_ret ?_) | (with_reducible refine s_drop ?_) | (with_reducible refine s_if ?_) | (with_reducible refine s_next ?_)
  | (with_reducible refine s_brk ?_) | (with_reducible refine s_cont ?_)
  | ((with_reducible refine' s_var ?hv ?_); (case hv => exact rfl)) | (with_reducible refine s_c ?_) | (with_reducible refine s_op ?_) | (with_reducible refine s_un ?_) | (with_reducible refine s_cb ?_) | (with_reducible refine s_call ?_)
  | (with_reducible refine s_cons ?_) | (with_reducible refine s_nil ?_) | (with_reducible refine s_test ?_) | (with_reducible refine s_tB ?_) | (with_reducible refine s_not ?_) | (with_reducible refine s_and ?_) | (with_reducible refine s_or ?_)
  | (with_reducible refine s_andV ?_) | (with_reducible refine s_orV ?_) | (with_reducible refine s_notV ?_) | (with_reducible refine s_ifE ?_) | (with_reducible refine s_bl ?_) | (with_reducible refine s_iT ?_) | (with_reducible refine s_iF ?_)
  | (with_reducible refine s_I0 ?_) | (with_reducible refine s_U ?_) | (with_reducible refine s_addI ?_) | (with_reducible refine s_eqI ?_) | (with_reducible refine s_eqS ?_) | (with_reducible refine s_eqB ?_) | (with_reducible refine s_neI ?_) | (with_reducible refine s_neS ?_) | (with_reducible refine s_neB ?_))
local macro_rules | `(tactic| walk_at "uz2") => `(tactic| first
  | walk_at "uz0" | (with_reducible refine s_dput ?_) | ((with_reducible refine' s_mod ?hc ?_); (case hc => first | decide | assumption | omega))
  | (with_reducible refine s_for ?_) | (with_reducible refine s_lc ?_) | (with_reducible refine s_itl ?_) | (with_reducible refine s_itt ?_) | (with_reducible refine s_its ?_) | (with_reducible refine s_itr ?_) | (with_reducible refine s_itr2 ?_) | (with_reducible refine s_disp ?_) | (with_reducible refine s_prn ?_) | (with_reducible refine s_prc ?_) | (with_reducible refine s_m1 ?_) | (with_reducible refine s_isS ?_) | (with_reducible refine s_um1 ?_) | (with_reducible refine s_isB ?_) | (with_reducible refine s_isn ?_) | (with_reducible refine s_notn ?_) | (with_reducible refine s_jd ?_) | (with_reducible refine s_jn ?_) | (with_reducible refine s_jc ?_) | (with_reducible refine s_fmt ?_) | (with_reducible refine s_gc ?_) | (with_reducible refine s_gnil ?_) | (with_reducible refine s_yes ?_) | (with_reducible refine s_raise ?_)
  | ((with_reducible refine' s_pow ?hc ?_); (case hc => exact ⟨by decide, by decide, by decide⟩)) | (with_reducible refine s_int ?_) | (with_reducible refine s_intB ?_) | (with_reducible refine s_strS ?_) | (with_reducible refine s_abs ?_) | (with_reducible refine s_max ?_) | (with_reducible refine s_min ?_) | (with_reducible refine s_gcd ?_)
  | (with_reducible refine s_chain ?_) | (with_reducible refine s_sl ?_) | (with_reducible refine s_noP ?_) | (with_reducible refine s_part ?_) | (with_reducible refine s_exI ?_) 
  | ((with_reducible refine' s_mulI ?hc ?_); (case hc => first | exact Or.inl (Or.inr ⟨by decide, by decide⟩) | exact Or.inl (Or.inl ⟨by decide, by decide⟩) | exact Or.inl (Or.inl ⟨by omega, by omega⟩) | exact Or.inl (Or.inr ⟨by omega, by omega⟩) | walk_at "umul"))
  | ((with_reducible refine' s_ixT ?hc ?hd ?_); (case hc => assumption); (case hd => rfl))
  | ((with_reducible refine' s_lenL ?hc ?_); (case hc => first | assumption | exact SqL.of (by assumption))) | ((with_reducible refine' s_lenT ?hc ?_); (case hc => first | assumption | exact SqT.of (by assumption)))
  | ((with_reducible refine' s_divP ?hc ?hd ?_); (case hc => first | decide | assumption | omega); (case hd => first | decide +kernel | assumption)))
local macro_rules | `(tactic| walk_at "uz1") => `(tactic| first
  | walk_at "uz2" | ((with_reducible refine' s_ixL ?hc ?hd ?_); (case hc => first | assumption | exact SqL.of (by assumption)); (case hd => rfl)) | ((with_reducible refine' s_ixT ?hc ?hd ?_); (case hc => exact SqT.of (by assumption)); (case hd => rfl))
  | ((with_reducible refine' s_intS ?hc ?hd ?_); (case hc => assumption); (case hd => assumption)) | ((with_reducible refine' s_lenS ?hc ?_); (case hc => assumption)))
local macro_rules | `(tactic| walk_at "uz") => `(tactic| ((repeat walk_at "uz1"); repeat ((first | (refine s_iF ?_) | (refine s_iT ?_)); (repeat walk_at "uz1"))))
theorem take_ix {ns : List Int} {i : Nat} {x : V} (h : (ns.map V.int)[i]? = some x) : ∃ c, x = .int c ∧ ns.take (i + 1) = ns.take i ++ [c] ∧ i < ns.length := by
  rw [List.getElem?_map] at h
  cases e : ns[i]? with
  | none => rw [e] at h; cases h
  | some c =>
    rw [e] at h
    have hi := (List.getElem?_eq_some_iff.mp e).1
    refine ⟨c, (Option.some.inj h).symm, ?_, hi⟩
    rw [List.take_add_one, e]
    rfl
section
variable {P : Program} {w : World} {K : PySem.W.Frag} {mg : Str → Option Value} {base : Heap}
variable {cE cH cU cW : Addr}
theorem ok_l_bag_of (T : Tp P K mg cE cH cU cW)
    {f : Addr} {fd : FuncData} {dvs : List V} (F : FunD K "_law_bag_of" "_law_bag_of" (defArgs s_l_bag_of) (defBody s_l_bag_of) (defScope s_l_bag_of) dvs [] f fd) : FnG P w K mg base 1 f fd P_l_bag_of (spBagOf K) := by
  refine fng F sc_l_bag_of (by walk_at "ulen") (fun cdv A outer s H vs Q E hr0 hg0 h => ?_)
  have hr : Rm 0 (A.deeper (envOfC "_law_bag_of" (defScope s_l_bag_of) s.heap.objs.size f cdv)) := ⟨hr0, hg0⟩
  have nd : N_l_bag_of.Nodup := sc_l_bag_of.nd
  have po : PassesOwn (model P w) (cxOf (L2.CX P w) P w K mg base N_l_bag_of "_law_bag_of" (defScope s_l_bag_of) f cdv A outer s H E).A (cxOf (L2.CX P w) P w K mg base N_l_bag_of "_law_bag_of" (defScope s_l_bag_of) f cdv A outer s H E).env (cxOf (L2.CX P w) P w K mg base N_l_bag_of "_law_bag_of" (defScope s_l_bag_of) f cdv A outer s H E).xe := passes_of rfl
  obtain ⟨p, ns, rfl, hp, hl, hb, k⟩ := h
  refine ⟨_, (pss_cons (ps_set (i := 1) nd rfl (Or.inl rfl) pe_int)
    (pss_cons (ps_for po rfl (pi_list (pv 0)) (pg_name (i := 2) nd rfl (Or.inl rfl))
    (pss_one (ps_set (i := 1) nd rfl (Or.inl rfl) (pe_op op_mod (pe_callTy call_uInt (by rfl) T.int b_int (pa_cons (pe_op op_uAdd (pe_op op_uAdd (pe_op op_uMul (pv 1) pe_int) (pv 2)) pe_int) pa_nil)) pe_int))))
    (pss_one (ps_ret (pe_disp (pps_cons pe_str (pe_lc (own := [("_law_cell", 2)]) (g := gName 2) (by rfl) nd (pi_list (pv 0)) (blkOk_by (own := [("_law_cell", 2)]) (N := N_l_bag_of) (sc := defScope s_l_bag_of) (by decide +kernel)) (fun s_ H_ C_ cl_ fp_ => pg_name (i := 2) nd rfl (Or.inl rfl)) (fun s_ H_ C_ cl_ fp_ => pts_nil) (fun s_ H_ C_ cl_ fp_ => (pv 2))) (pps_cons pe_str pe_int (pps_cons pe_str pe_int (pps_cons pe_str (pv 1) (pps_cons pe_str pe_int pps_nil))))) (by rfl) (by rfl) (fun z => by cases z) (by decide)))))), ?_⟩
  walk_at "uk"
  walk_at "us"
  refine loopL (xs := List.map V.int ns) (fun i σ' H' => H = H' ∧ ∃ m : Int, 0 ≤ m ∧ m < 1000003 ∧ ∃ oc, σ' = ((L2.start N_l_bag_of [V.ref p]).set 1 (some (.int m))).set 2 oc) ⟨rfl, 7, by decide, by decide, none, rfl⟩ ?_ ?_ ?_
  · rintro i σ' _ ⟨rfl, _⟩
    exact hp
  · rintro σ' _ ⟨rfl, m, m0, m1, oc, rfl⟩
    walk_at "us"
    intro q hq
    walk_at "us"
    have e0 := exN (o := .dK []) hq
    refine lcL (Ex.sl hp e0) (fun D i acc H' => Ex (upd H q (.dK [])) H' ∧ H' D = some (.lst acc) ∧ acc = (ns.take i).map V.int) (fun D hD => ⟨exN hD, upd_same, rfl⟩) (fun D i acc H' z => z.1) ?_ ?_
    · rintro D acc H' hD ⟨e, hd, rfl⟩
      walk_at "us"
      refine ⟨e _ _ upd_same, bagK D 0 0 m 0, rfl, Nat.le_of_ble_eq_true rfl, ?_⟩
      rw [merge_new (kvs := bagK D 0 0 m 0) (show ((["cells", "at", "rest", "mixed", "count"] : List Str).map (fun x => (.inr x : Key))).Nodup from by decide +kernel)]
      have nq : D ≠ q := fun z => by rw [z, upd_same] at hD; cases hD
      exact k _ _ (ex_put hq (e0.tr e)) ⟨D, ns, 0, 0, m, 0, upd_same, by rw [upd_ne nq, hd, List.length_map, List.take_length], Int.le_refl _, hl⟩
    · rintro D i x acc H' hD hx ⟨e, hd, rfl⟩
      obtain ⟨c, rfl, ht, hi⟩ := take_ix hx
      walk_at "us"
      refine ⟨rfl, ?_⟩
      walk_at "us"
      exact ⟨_, hd, by rw [List.length_map, List.length_take]; exact Nat.lt_of_le_of_lt (Nat.min_le_right _ _) (Nat.lt_of_le_of_lt hl (by decide)), _, ex_put hD e, upd_same, by rw [ht, List.map_append]; rfl⟩
  · rintro i x σ' _ hx ⟨rfl, m, m0, m1, oc, rfl⟩
    obtain ⟨c, rfl, _⟩ := take_ix hx
    walk_at "us"
    exact ⟨rfl, _, Int.emod_nonneg _ (by decide), Int.emod_lt_of_pos _ (by decide), some (.int c), rfl⟩
end
end Lw

set_option Elab.async false
set_option linter.all false
set_option maxRecDepth 100000
set_option maxHeartbeats 4000000
namespace Lw
open PySem PySem.Spec L2 Uv
open PyProof.Rows hiding St
local macro_rules | `(tactic| walk_at "umul") => `(tactic| fail)
local macro_rules | `(tactic| walk_at "us1") => `(tactic| first
  | (with_reducible refine s_seq ?_) | (with_reducible refine s_asg ?_) | (with_reducible refine s_gn ?_) | (with_reducible refine s_ret ?_) | (with_reducible refine s_drop ?_) | (with_reducible refine s_if ?_) | (with_reducible refine s_next ?_)
  | (with_reducible refine s_brk ?_) | (with_reducible refine s_cont ?_)
  | ((with_reducible refine' s_var ?hv ?_); (case hv => exact rfl)) | (with_reducible refine s_c ?_) | (with_reducible refine s_op ?_) | (with_reducible refine s_un ?_) | (with_reducible refine s_cb ?_) | (with_reducible refine s_call ?_)
  | (with_reducible refine s_cons ?_) | (with_reducible refine s_nil ?_) | (with_reducible refine s_test ?_) | (with_reducible refine s_tB ?_) | (with_reducible refine s_not ?_) | (with_reducible refine s_and ?_) | (with_reducible refine s_or ?_)
  | (with_reducible refine s_andV ?_) | (with_reducible refine s_orV ?_) | (with_reducible refine s_notV ?_) | (with_reducible refine s_ifE ?_) | (with_reducible refine s_bl ?_) | (with_reducible refine s_iT ?_) | (with_reducible refine s_iF ?_)
  | (with_reducible refine s_I0 ?_) | (with_reducible refine s_U ?_) | (with_reducible refine s_addI ?_) | (with_reducible refine s_eqI ?_) | (with_reducible refine s_eqS ?_) | (with_reducible refine s_eqB ?_) | (with_reducible refine s_neI ?_) | (with_reducible refine s_neS ?_) | (with_reducible refine s_neB ?_)
  | (with_reducible refine s_tupE ?_) | (with_reducible refine s_lstE ?_))
local macro_rules | `(tactic| walk_at "us") => `(tactic| repeat walk_at "us1")
local macro_rules | `(tactic| walk_at "ulen") => `(tactic| (intro vs H Q E h; repeat' (first | (obtain ⟨e, _⟩ := h; subst e; rfl) | (subst h; rfl) | (refine Or.elim h (fun h => ?_) (fun h => ?_)) | (obtain ⟨_, h⟩ := h))))
local macro_rules | `(tactic| walk_at "uk") => `(tactic| (try dsimp only [cxOf, Cx.suite, Cx.tr]))
local macro_rules | `(tactic| walk_at "us2") => `(tactic| first
  | walk_at "us1" | (with_reducible refine s_dput ?_) | ((with_reducible refine' s_mod ?hc ?_); (case hc => first | decide | assumption | omega))
  | (with_reducible refine s_for ?_) | (with_reducible refine s_lc ?_) | (with_reducible refine s_itl ?_) | (with_reducible refine s_itt ?_) | (with_reducible refine s_its ?_) | (with_reducible refine s_itr ?_) | (with_reducible refine s_itr2 ?_) | (with_reducible refine s_disp ?_) | (with_reducible refine s_prn ?_) | (with_reducible refine s_prc ?_) | (with_reducible refine s_m1 ?_) | (with_reducible refine s_isS ?_) | (with_reducible refine s_um1 ?_) | (with_reducible refine s_isB ?_) | (with_reducible refine s_isn ?_) | (with_reducible refine s_notn ?_) | (with_reducible refine s_jd ?_) | (with_reducible refine s_jn ?_) | (with_reducible refine s_jc ?_) | (with_reducible refine s_fmt ?_) | (with_reducible refine s_gc ?_) | (with_reducible refine s_gnil ?_) | (with_reducible refine s_yes ?_) | (with_reducible refine s_raise ?_)
  | ((with_reducible refine' s_pow ?hc ?_); (case hc => exact ⟨by decide, by decide, by decide⟩)) | (with_reducible refine s_int ?_) | (with_reducible refine s_intB ?_) | (with_reducible refine s_strS ?_) | (with_reducible refine s_abs ?_) | (with_reducible refine s_max ?_) | (with_reducible refine s_min ?_) | (with_reducible refine s_gcd ?_)
  | (with_reducible refine s_chain ?_) | (with_reducible refine s_sl ?_) | (with_reducible refine s_noP ?_) | (with_reducible refine s_part ?_) | (with_reducible refine s_exI ?_) 
  | ((with_reducible refine' s_mulI ?hc ?_); (case hc => first | exact Or.inl (Or.inr ⟨by decide, by decide⟩) | exact Or.inl (Or.inl ⟨by decide, by decide⟩) | exact Or.inl (Or.inl ⟨by omega, by omega⟩) | exact Or.inl (Or.inr ⟨by omega, by omega⟩) | walk_at "umul"))
  | ((with_reducible refine' s_ixT ?hc ?hd ?_); (case hc => assumption); (case hd => rfl))
  | ((with_reducible refine' s_lenL ?hc ?_); (case hc => first | assumption | exact SqL.of (by assumption))) | ((with_reducible refine' s_lenT ?hc ?_); (case hc => first | assumption | exact SqT.of (by assumption)))
  | ((with_reducible refine' s_divP ?hc ?hd ?_); (case hc => first | decide | assumption | omega); (case hd => first | decide +kernel | assumption)))
local macro_rules | `(tactic| walk_at "us") => `(tactic| repeat walk_at "us2")
local macro_rules | `(tactic| walk_at "uj") => `(tactic| ((walk_at "us"); with_reducible refine s_J ?_))
local macro_rules | `(tactic| walk_at "ua") => `(tactic| ((walk_at "us"); repeat ((first | (refine s_iF ?_) | (refine s_iT ?_)); (walk_at "us"))))
local macro_rules | `(tactic| walk_at "ub") => `(tactic| walk_at "ua")
local macro_rules | `(tactic| walk_at "ux1") => `(tactic| first
  | walk_at "us2" | ((with_reducible refine' s_ixL ?hc ?hd ?_); (case hc => first | assumption | exact SqL.of (by assumption)); (case hd => rfl)) | ((with_reducible refine' s_ixT ?hc ?hd ?_); (case hc => exact SqT.of (by assumption)); (case hd => rfl))
  | ((with_reducible refine' s_intS ?hc ?hd ?_); (case hc => assumption); (case hd => assumption)) | ((with_reducible refine' s_lenS ?hc ?_); (case hc => assumption)))
local macro_rules | `(tactic| walk_at "ux") => `(tactic| repeat walk_at "ux1")
local macro_rules | `(tactic| walk_at "uy") => `(tactic| ((walk_at "ux"); repeat ((first | (refine s_iF ?_) | (refine s_iT ?_)); (walk_at "ux"))))
local macro_rules | `(tactic| walk_at "uz0") => `(tactic| first
  | (with_reducible refine s_seq ?_) | (with_reducible refine s_asg ?_) | (with_reducible refine s_gn ?_) | (with_reducible refine s_ret ?_) | (with_reducible refine s_drop ?_) | (with_reducible refine s_if ?_) | (with_reducible refine s_next ?_)
  | (with_reducible refine s_brk ?_) | (with_reducible refine s_cont ?_)
  | ((with_reducible refine' s_var ?hv ?_); (case hv => exact rfl)) | (with_reducible refine s_c ?_) | (with_reducible refine s_op ?_) | (with_reducible refine s_un ?_) | (with_reducible refine s_cb ?_) | (with_reducible refine s_call ?_)
  | (with_reducible refine s_cons ?_) | (with_reducible refine s_nil ?_) | (with_reducible refine s_test ?_) | (with_reducible refine s_tB ?_) | (with_reducible refine s_not ?_) | (with_reducible refine s_and ?_) | (with_reducible refine s_or ?_)
  | (with_reducible refine s_andV ?_) | (with_reducible refine s_orV ?_) | (with_reducible refine s_notV ?_) | (with_reducible refine s_ifE ?_) | (with_reducible refine s_bl ?_) | (with_reducible refine s_iT ?_) | (with_reducible refine s_iF ?_)
  | (with_reducible refine s_I0 ?_) | (with_reducible refine s_U ?_) | (with_reducible refine s_addI ?_) | (with_reducible refine s_eqI ?_) | (with_reducible refine s_eqS ?_) | (with_reducible refine s_eqB ?_) | (with_reducible refine s_neI ?_) | (with_reducible refine s_neS ?_) | (with_reducible refine s_neB ?_))
local macro_rules | `(tactic| walk_at "uz2") => `(tactic| first
  | walk_at "uz0" | (with_reducible refine s_dput ?_) | ((with_reducible refine' s_mod ?hc ?_); (case hc => first | decide | assumption | omega))
  | (with_reducible refine s_for ?_) | (with_reducible refine s_lc ?_) | (with_reducible refine s_itl ?_) | (with_reducible refine s_itt ?_) | (with_reducible refine s_its ?_) | (with_reducible refine s_itr ?_) | (with_reducible refine s_itr2 ?_) | (with_reducible refine s_disp ?_) | (with_reducible refine s_prn ?_) | (with_reducible refine s_prc ?_) | (with_reducible refine s_m1 ?_) | (with_reducible refine s_isS ?_) | (with_reducible refine s_um1 ?_) | (with_reducible refine s_isB ?_) | (with_reducible refine s_isn ?_) | (with_reducible refine s_notn ?_) | (with_reducible refine s_jd ?_) | (with_reducible refine s_jn ?_) | (with_reducible refine s_jc ?_) | (with_reducible refine s_fmt ?_) | (with_reducible refine s_gc ?_) | (with_reducible refine s_gnil ?_) | (with_reducible refine s_yes ?_) | (with_reducible refine s_raise ?_)
  | ((with_reducible refine' s_pow ?hc ?_); (case hc => exact ⟨by decide, by decide, by decide⟩)) | (with_reducible refine s_int ?_) | (with_reducible refine s_intB ?_) | (with_reducible refine s_strS ?_) | (with_reducible refine s_abs ?_) | (with_reducible refine s_max ?_) | (with_reducible refine s_min ?_) | (with_reducible refine s_gcd ?_)
  | (with_reducible refine s_chain ?_) | (with_reducible refine s_sl ?_) | (with_reducible refine s_noP ?_) | (with_reducible refine s_part ?_) | (with_reducible refine s_exI ?_) 
  | ((with_reducible refine' s_mulI ?hc ?_); (case hc => first | exact Or.inl (Or.inr ⟨by decide, by decide⟩) | exact Or.inl (Or.inl ⟨by decide, by decide⟩) | exact Or.inl (Or.inl ⟨by omega, by omega⟩) | exact Or.inl (Or.inr ⟨by omega, by omega⟩) | walk_at "umul"))
  | ((with_reducible refine' s_ixT ?hc ?hd ?_); (case hc => assumption); (case hd => rfl))
  | ((with_reducible refine' s_lenL ?hc ?_); (case hc => first | assumption | exact SqL.of (by assumption))) | ((with_reducible refine' s_lenT ?hc ?_); (case hc => first | assumption | exact SqT.of (by assumption)))
  | ((with_reducible refine' s_divP ?hc ?hd ?_); (case hc => first | decide | assumption | omega); (case hd => first | decide +kernel | assumption)))
local macro_rules | `(tactic| walk_at "uz1") => `(tactic| first
  | walk_at "uz2" | ((with_reducible refine' s_ixL ?hc ?hd ?_); (case hc => first | assumption | exact SqL.of (by assumption)); (case hd => rfl)) | ((with_reducible refine' s_ixT ?hc ?hd ?_); (case hc => exact SqT.of (by assumption)); (case hd => rfl))
  | ((with_reducible refine' s_intS ?hc ?hd ?_); (case hc => assumption); (case hd => assumption)) | ((with_reducible refine' s_lenS ?hc ?_); (case hc => assumption)))
local macro_rules | `(tactic| walk_at "uz") => `(tactic| ((repeat walk_at "uz1"); repeat ((first | (refine s_iF ?_) | (refine s_iT ?_)); (repeat walk_at "uz1"))))
section
variable {P : Program} {w : World} {K : PySem.W.Frag} {mg : Str → Option Value} {base : Heap}
variable {cE cH cU cW : Addr}
theorem ok_l_integer (T : Tp P K mg cE cH cU cW)
    {f : Addr} {fd : FuncData} {dvs : List V} (F : FunD K "_law_integer" "_law_integer" (defArgs s_l_integer) (defBody s_l_integer) (defScope s_l_integer) dvs [] f fd) : FnG P w K mg base 1 f fd P_l_integer (spInteger K) := by
  refine fng F sc_l_integer (by walk_at "ulen") (fun cdv A outer s H vs Q E hr0 hg0 h => ?_)
  have hr : Rm 0 (A.deeper (envOfC "_law_integer" (defScope s_l_integer) s.heap.objs.size f cdv)) := ⟨hr0, hg0⟩
  have nd : N_l_integer.Nodup := sc_l_integer.nd
  obtain ⟨v, d, rfl, hd, k⟩ := h
  refine ⟨_, (pss_one (ps_ret (pe_and (pe_callB call_isi (by rfl) T.isinstance b_isinstance (pa_cons (pv 0) (pa_cons (pe_bltn (v := .ty "int") (by rfl) T.int b_int rfl) pa_nil))) (pe_one (pe_not (pe_callB call_isi (by rfl) T.isinstance b_isinstance (pa_cons (pv 0) (pa_cons (pe_bltn (v := .ty "bool") (by rfl) T.bool b_bool rfl) pa_nil)))))))), ?_⟩
  walk_at "uk"
  walk_at "us"
  refine s_isInt hd ?_
  cases hd with
  | int i =>
    walk_at "ua"
    refine s_isBool (.int i) ?_
    walk_at "ua"
    exact k
  | bl b =>
    walk_at "ua"
    refine s_isBool (.bl b) ?_
    walk_at "ua"
    exact k
  | _ =>
    walk_at "ua"
    exact k
end
end Lw

set_option Elab.async false
set_option linter.all false
set_option maxRecDepth 100000
set_option maxHeartbeats 4000000
namespace Lw
open PySem PySem.Spec L2 Uv
open PyProof.Rows hiding St
local macro_rules | `(tactic| walk_at "umul") => `(tactic| fail)
local macro_rules | `(tactic| walk_at "us1") => `(tactic| first
  | (with_reducible refine s_seq ?_) | (with_reducible refine s_asg ?_) | (with_reducible refine s_gn ?_) | (with_reducible refine s_ret ?_) | (with_reducible refine s_drop ?_) | (with_reducible refine s_if ?_) | (with_reducible refine s_next ?_)
  | (with_reducible refine s_brk ?_) | (with_reducible refine s_cont ?_)
  | ((with_reducible refine' s_var ?hv ?_); (case hv => exact rfl)) | (with_reducible refine s_c ?_) | (with_reducible refine s_op ?_) | (with_reducible refine s_un ?_) | (with_reducible refine s_cb ?_) | (with_reducible refine s_call ?_)
  | (with_reducible refine s_cons ?_) | (with_reducible refine s_nil ?_) | (with_reducible refine s_test ?_) | (with_reducible refine s_tB ?_) | (with_reducible refine s_not ?_) | (with_reducible refine s_and ?_) | (with_reducible refine s_or ?_)
  | (with_reducible refine s_andV ?_) | (with_reducible refine s_orV ?_) | (with_reducible refine s_notV ?_) | (with_reducible refine s_ifE ?_) | (with_reducible refine s_bl ?_) | (with_reducible refine s_iT ?_) | (with_reducible refine s_iF ?_)
  | (with_reducible refine s_I0 ?_) | (with_reducible refine s_U ?_) | (with_reducible refine s_addI ?_) | (with_reducible refine s_eqI ?_) | (with_reducible refine s_eqS ?_) | (with_reducible refine s_eqB ?_) | (with_reducible refine s_neI ?_) | (with_reducible refine s_neS ?_) | (with_reducible refine s_neB ?_)
  | (with_reducible refine s_tupE ?_) | (with_reducible refine s_lstE ?_))
local macro_rules | `(tactic| walk_at "us") => `(tactic| repeat walk_at "us1")
local macro_rules | `(tactic| walk_at "ulen") => `(tactic| (intro vs H Q E h; repeat' (first | (obtain ⟨e, _⟩ := h; subst e; rfl) | (subst h; rfl) | (refine Or.elim h (fun h => ?_) (fun h => ?_)) | (obtain ⟨_, h⟩ := h))))
local macro_rules | `(tactic| walk_at "uk") => `(tactic| (try dsimp only [cxOf, Cx.suite, Cx.tr]))
local macro_rules | `(tactic| walk_at "us2") => `(tactic| first
  | walk_at "us1" | (with_reducible refine s_dput ?_) | ((with_reducible refine' s_mod ?hc ?_); (case hc => first | decide | assumption | omega))
  | (with_reducible refine s_for ?_) | (with_reducible refine s_lc ?_) | (with_reducible refine s_itl ?_) | (with_reducible refine s_itt ?_) | (with_reducible refine s_its ?_) | (with_reducible refine s_itr ?_) | (with_reducible refine s_itr2 ?_) | (with_reducible refine s_disp ?_) | (with_reducible refine s_prn ?_) | (with_reducible refine s_prc ?_) | (with_reducible refine s_m1 ?_) | (with_reducible refine s_isS ?_) | (with_reducible refine s_um1 ?_) | (with_reducible refine s_isB ?_) | (with_reducible refine s_isn ?_) | (with_reducible refine s_notn ?_) | (with_reducible refine s_jd ?_) | (with_reducible refine s_jn ?_) | (with_reducible refine s_jc ?_) | (with_reducible refine s_fmt ?_) | (with_reducible refine s_gc ?_) | (with_reducible refine s_gnil ?_) | (with_reducible refine s_yes ?_) | (with_reducible refine s_raise ?_)
  | ((with_reducible refine' s_pow ?hc ?_); (case hc => exact ⟨by decide, by decide, by decide⟩)) | (with_reducible refine s_int ?_) | (with_reducible refine s_intB ?_) | (with_reducible refine s_strS ?_) | (with_reducible refine s_abs ?_) | (with_reducible refine s_max ?_) | (with_reducible refine s_min ?_) | (with_reducible refine s_gcd ?_)
  | (with_reducible refine s_chain ?_) | (with_reducible refine s_sl ?_) | (with_reducible refine s_noP ?_) | (with_reducible refine s_part ?_) | (with_reducible refine s_exI ?_) 
  | ((with_reducible refine' s_mulI ?hc ?_); (case hc => first | exact Or.inl (Or.inr ⟨by decide, by decide⟩) | exact Or.inl (Or.inl ⟨by decide, by decide⟩) | exact Or.inl (Or.inl ⟨by omega, by omega⟩) | exact Or.inl (Or.inr ⟨by omega, by omega⟩) | walk_at "umul"))
  | ((with_reducible refine' s_ixT ?hc ?hd ?_); (case hc => assumption); (case hd => rfl))
  | ((with_reducible refine' s_lenL ?hc ?_); (case hc => first | assumption | exact SqL.of (by assumption))) | ((with_reducible refine' s_lenT ?hc ?_); (case hc => first | assumption | exact SqT.of (by assumption)))
  | ((with_reducible refine' s_divP ?hc ?hd ?_); (case hc => first | decide | assumption | omega); (case hd => first | decide +kernel | assumption)))
local macro_rules | `(tactic| walk_at "us") => `(tactic| repeat walk_at "us2")
local macro_rules | `(tactic| walk_at "uj") => `(tactic| ((walk_at "us"); with_reducible refine s_J ?_))
local macro_rules | `(tactic| walk_at "ua") => `(tactic| ((walk_at "us"); repeat ((first | (refine s_iF ?_) | (refine s_iT ?_)); (walk_at "us"))))
local macro_rules | `(tactic| walk_at "ub") => `(tactic| walk_at "ua")
local macro_rules | `(tactic| walk_at "ux1") => `(tactic| first
  | walk_at "us2" | ((with_reducible refine' s_ixL ?hc ?hd ?_); (case hc => first | assumption | exact SqL.of (by assumption)); (case hd => rfl)) | ((with_reducible refine' s_ixT ?hc ?hd ?_); (case hc => exact SqT.of (by assumption)); (case hd => rfl))
  | ((with_reducible refine' s_intS ?hc ?hd ?_); (case hc => assumption); (case hd => assumption)) | ((with_reducible refine' s_lenS ?hc ?_); (case hc => assumption)))
local macro_rules | `(tactic| walk_at "ux") => `(tactic| repeat walk_at "ux1")
local macro_rules | `(tactic| walk_at "uy") => `(tactic| ((walk_at "ux"); repeat ((first | (refine s_iF ?_) | (refine s_iT ?_)); (walk_at "ux"))))
local macro_rules | `(tactic| walk_at "uz0") => `(tactic| first
  | (with_reducible refine s_seq ?_) | (with_reducible refine s_asg ?_) | (with_reducible refine s_gn ?_) | (with_reducible refine s_ret ?_) | (with_reducible refine s_drop ?_) | (with_reducible refine s_if ?_) | (with_reducible refine s_next ?_)
  | (with_reducible refine s_brk ?_) | (with_reducible refine s_cont ?_)
  | ((with_reducible refine' s_var ?hv ?_); (case hv => exact rfl)) | (with_reducible refine s_c ?_) | (with_reducible refine s_op ?_) | (with_reducible refine s_un ?_) | (with_reducible refine s_cb ?_) | (with_reducible refine s_call ?_)
  | (with_reducible refine s_cons ?_) | (with_reducible refine s_nil ?_) | (with_reducible refine s_test ?_) | (with_reducible refine s_tB ?_) | (with_reducible refine s_not ?_) | (with_reducible refine s_and ?_) | (with_reducible refine s_or ?_)
  | (with_reducible refine s_andV ?_) | (with_reducible refine s_orV ?_) | (with_reducible refine s_notV ?_) | (with_reducible refine s_ifE ?_) | (with_reducible refine s_bl ?_) | (with_reducible refine s_iT ?_) | (with_reducible refine s_iF ?_)
  | (with_reducible refine s_I0 ?_) | (with_reducible refine s_U ?_) | (with_reducible refine s_addI ?_) | (with_reducible refine s_eqI ?_) | (with_reducible refine s_eqS ?_) | (with_reducible refine s_eqB ?_) | (with_reducible refine s_neI ?_) | (with_reducible refine s_neS ?_) | (with_reducible refine s_neB ?_))
local macro_rules | `(tactic| walk_at "uz2") => `(tactic| first
  | walk_at "uz0" | (with_reducible refine s_dput ?_) | ((with_reducible refine' s_mod ?hc ?_); (case hc => first | decide | assumption | omega))
  | (with_reducible refine s_for ?_) | (with_reducible refine s_lc ?_) | (with_reducible refine s_itl ?_) | (with_reducible refine s_itt ?_) | (with_reducible refine s_its ?_) | (with_reducible refine s_itr ?_) | (with_reducible refine s_itr2 ?_) | (with_reducible refine s_disp ?_) | (with_reducible refine s_prn ?_) | (with_reducible refine s_prc ?_) | (with_reducible refine s_m1 ?_) | (with_reducible refine s_isS ?_) | (with_reducible refine s_um1 ?_) | (with_reducible refine s_isB ?_) | (with_reducible refine s_isn ?_) | (with_reducible refine s_notn ?_) | (with_reducible refine s_jd ?_) | (with_reducible refine s_jn ?_) | (with_reducible refine s_jc ?_) | (with_reducible refine s_fmt ?_) | (with_reducible refine s_gc ?_) | (with_reducible refine s_gnil ?_) | (with_reducible refine s_yes ?_) | (with_reducible refine s_raise ?_)
  | ((with_reducible refine' s_pow ?hc ?_); (case hc => exact ⟨by decide, by decide, by decide⟩)) | (with_reducible refine s_int ?_) | (with_reducible refine s_intB ?_) | (with_reducible refine s_strS ?_) | (with_reducible refine s_abs ?_) | (with_reducible refine s_max ?_) | (with_reducible refine s_min ?_) | (with_reducible refine s_gcd ?_)
  | (with_reducible refine s_chain ?_) | (with_reducible refine s_sl ?_) | (with_reducible refine s_noP ?_) | (with_reducible refine s_part ?_) | (with_reducible refine s_exI ?_) 
  | ((with_reducible refine' s_mulI ?hc ?_); (case hc => first | exact Or.inl (Or.inr ⟨by decide, by decide⟩) | exact Or.inl (Or.inl ⟨by decide, by decide⟩) | exact Or.inl (Or.inl ⟨by omega, by omega⟩) | exact Or.inl (Or.inr ⟨by omega, by omega⟩) | walk_at "umul"))
  | ((with_reducible refine' s_ixT ?hc ?hd ?_); (case hc => assumption); (case hd => rfl))
  | ((with_reducible refine' s_lenL ?hc ?_); (case hc => first | assumption | exact SqL.of (by assumption))) | ((with_reducible refine' s_lenT ?hc ?_); (case hc => first | assumption | exact SqT.of (by assumption)))
  | ((with_reducible refine' s_divP ?hc ?hd ?_); (case hc => first | decide | assumption | omega); (case hd => first | decide +kernel | assumption)))
local macro_rules | `(tactic| walk_at "uz1") => `(tactic| first
  | walk_at "uz2" | ((with_reducible refine' s_ixL ?hc ?hd ?_); (case hc => first | assumption | exact SqL.of (by assumption)); (case hd => rfl)) | ((with_reducible refine' s_ixT ?hc ?hd ?_); (case hc => exact SqT.of (by assumption)); (case hd => rfl))
  | ((with_reducible refine' s_intS ?hc ?hd ?_); (case hc => assumption); (case hd => assumption)) | ((with_reducible refine' s_lenS ?hc ?_); (case hc => assumption)))
local macro_rules | `(tactic| walk_at "uz") => `(tactic| ((repeat walk_at "uz1"); repeat ((first | (refine s_iF ?_) | (refine s_iT ?_)); (repeat walk_at "uz1"))))
section
variable {P : Program} {w : World} {K : PySem.W.Frag} {mg : Str → Option Value} {base : Heap}
variable {cE cH cU cW : Addr}
theorem ok_is_integer (T : Tp P K mg cE cH cU cW)
    {f : Addr} {fd : FuncData} {dvs : List V} (F : FunD K "is_integer" "is_integer" (defArgs s_is_integer) (defBody s_is_integer) (defScope s_is_integer) dvs [] f fd) : FnG P w K mg base 1 f fd P_is_integer (spIsInteger K) := by
  refine fng F sc_is_integer (by walk_at "ulen") (fun cdv A outer s H vs Q E hr0 hg0 h => ?_)
  have hr : Rm 0 (A.deeper (envOfC "is_integer" (defScope s_is_integer) s.heap.objs.size f cdv)) := ⟨hr0, hg0⟩
  have nd : N_is_integer.Nodup := sc_is_integer.nd
  obtain ⟨v, d, lo, l, hi, hh, rfl, hd, hl, hl2, k⟩ := h
  refine ⟨_, (pss_cons (ps_if (PW.pt (pw_or (pt_not (pt_val (pe_callB call_isi (by rfl) T.isinstance b_isinstance (pa_cons (pv 0) (pa_cons (pe_bltn (v := .ty "int") (by rfl) T.int b_int rfl) pa_nil))))) (pw_or1 (pt_val (pe_callB call_isi (by rfl) T.isinstance b_isinstance (pa_cons (pv 0) (pa_cons (pe_bltn (v := .ty "bool") (by rfl) T.bool b_bool rfl) pa_nil))))))) (pss_one (ps_ret pe_bl)) pss_nil)
    (pss_one (ps_ret (pe_and (pe_or (pe_cmpR op_uIsN (pv 1) pe_non (nomark _)) (pe_one (pe_cmpR op_le (pv 1) (pv 0) (nomark _)))) (pe_one (pe_or (pe_cmpR op_uIsN (pv 2) pe_non (nomark _)) (pe_one (pe_cmpR op_le (pv 0) (pv 2) (nomark _))))))))), ?_⟩
  walk_at "uk"
  walk_at "us"
  refine s_isInt hd ?_
  cases hd with
  | int i =>
    walk_at "ua"
    refine s_isBool (.int i) ?_
    have fin : ∀ (a : Bool) (e : isIntegerD (.int i) l hh = a), Q (.bl a) H := fun a e => by rw [← e]; exact k
    rcases hl with ⟨rfl, rfl⟩ | ⟨j, rfl, rfl⟩
    · rcases hl2 with ⟨rfl, rfl⟩ | ⟨j2, rfl, rfl⟩
      · walk_at "ua"
        exact k
      · walk_at "ua"
        exact fin _ (by simp [isIntegerD])
    · rcases hl2 with ⟨rfl, rfl⟩ | ⟨j2, rfl, rfl⟩
      · walk_at "ua"
        refine s_itB (fun z => ?_) (fun z => ?_)
        · walk_at "ua"
          exact fin _ (by simpa [isIntegerD] using z)
        · walk_at "ua"
          exact fin _ (by simpa [isIntegerD] using z)
      · walk_at "ua"
        refine s_itB (fun z => ?_) (fun z => ?_)
        · walk_at "ua"
          exact fin _ (by show (decide (j ≤ i) && decide (i ≤ j2)) = _; rw [z]; exact Bool.true_and _)
        · walk_at "ua"
          exact fin _ (by show (decide (j ≤ i) && decide (i ≤ j2)) = false; rw [z]; rfl)
  | bl b =>
    walk_at "ua"
    refine s_isBool (.bl b) ?_
    walk_at "ua"
    exact k
  | _ =>
    walk_at "ua"
    exact k
end
end Lw

set_option Elab.async false
set_option linter.all false
set_option maxRecDepth 100000
set_option maxHeartbeats 4000000
namespace Lw
open PySem PySem.Spec L2 Uv
open PyProof.Rows hiding St
local macro_rules | `(tactic| walk_at "umul") => `(tactic| fail)
local macro_rules | `(tactic| walk_at "us1") => `(tactic| first
  | (with_reducible refine s_seq ?_) | (with_reducible refine s_asg ?_) | (with_reducible refine s_gn ?_) | (with_reducible refine s_ret ?_) | (with_reducible refine s_drop ?_) | (with_reducible refine s_if ?_) | (with_reducible refine s_next ?_)
  | (with_reducible refine s_brk ?_) | (with_reducible refine s_cont ?_)
  | ((with_reducible refine' s_var ?hv ?_); (case hv => exact rfl)) | (with_reducible refine s_c ?_) | (with_reducible refine s_op ?_) | (with_reducible refine s_un ?_) | (with_reducible refine s_cb ?_) | (with_reducible refine s_call ?_)
  | (with_reducible refine s_cons ?_) | (with_reducible refine s_nil ?_) | (with_reducible refine s_test ?_) | (with_reducible refine s_tB ?_) | (with_reducible refine s_not ?_) | (with_reducible refine s_and ?_) | (with_reducible refine s_or ?_)
  | (with_reducible refine s_andV ?_) | (with_reducible refine s_orV ?_) | (with_reducible refine s_notV ?_) | (with_reducible refine s_ifE ?_) | (with_reducible refine s_bl ?_) | (with_reducible refine s_iT ?_) | (with_reducible refine s_iF ?_)
  | (with_reducible refine s_I0 ?_) | (with_reducible refine s_U ?_) | (with_reducible refine s_addI ?_) | (with_reducible refine s_eqI ?_) | (with_reducible refine s_eqS ?_) | (with_reducible refine s_eqB ?_) | (with_reducible refine s_neI ?_) | (with_reducible refine s_neS ?_) | (with_reducible refine s_neB ?_)
  | (with_reducible refine s_tupE ?_) | (with_reducible refine s_lstE ?_))
local macro_rules | `(tactic| walk_at "us") => `(tactic| repeat walk_at "us1")
local macro_rules | `(tactic| walk_at "ulen") => `(tactic| (intro vs H Q E h; repeat' (first | (obtain ⟨e, _⟩ := h; subst e; rfl) | (subst h; rfl) | (refine Or.elim h (fun h => ?_) (fun h => ?_)) | (obtain ⟨_, h⟩ := h))))
local macro_rules | `(tactic| walk_at "uk") => `(tactic| (try dsimp only [cxOf, Cx.suite, Cx.tr]))
local macro_rules | `(tactic| walk_at "us2") => `(tactic| first
  | walk_at "us1" | (with_reducible refine s_dput ?_) | ((with_reducible refine' s_mod ?hc ?_); (case hc => first | decide | assumption | omega))
  | (with_reducible refine s_for ?_) | (with_reducible refine s_lc ?_) | (with_reducible refine s_bm ?_) | (with_reducible refine s_ilt ?_) | (with_reducible refine s_izx ?_) | (with_reducible refine s_ienum ?_) | (with_reducible refine s_din ?_) | (with_reducible refine s_dnotin ?_) | (with_reducible refine s_itl ?_) | (with_reducible refine s_itt ?_) | (with_reducible refine s_its ?_) | (with_reducible refine s_itr ?_) | (with_reducible refine s_itr2 ?_) | (with_reducible refine s_disp ?_) | (with_reducible refine s_prn ?_) | (with_reducible refine s_prc ?_) | (with_reducible refine s_m1 ?_) | (with_reducible refine s_isS ?_) | (with_reducible refine s_um1 ?_) | (with_reducible refine s_isB ?_) | (with_reducible refine s_isn ?_) | (with_reducible refine s_notn ?_) | (with_reducible refine s_jd ?_) | (with_reducible refine s_jn ?_) | (with_reducible refine s_jc ?_) | (with_reducible refine s_fmt ?_) | (with_reducible refine s_gc ?_) | (with_reducible refine s_gnil ?_) | (with_reducible refine s_yes ?_) | (with_reducible refine s_raise ?_)
  | ((with_reducible refine' s_pow ?hc ?_); (case hc => exact ⟨by decide, by decide, by decide⟩)) | (with_reducible refine s_int ?_) | (with_reducible refine s_intB ?_) | (with_reducible refine s_strS ?_) | (with_reducible refine s_abs ?_) | (with_reducible refine s_max ?_) | (with_reducible refine s_min ?_) | (with_reducible refine s_gcd ?_)
  | (with_reducible refine s_chain ?_) | (with_reducible refine s_sl ?_) | (with_reducible refine s_noP ?_) | (with_reducible refine s_part ?_) | (with_reducible refine s_exI ?_) 
  | ((with_reducible refine' s_mulI ?hc ?_); (case hc => first | exact Or.inl (Or.inr ⟨by decide, by decide⟩) | exact Or.inl (Or.inl ⟨by decide, by decide⟩) | exact Or.inl (Or.inl ⟨by omega, by omega⟩) | exact Or.inl (Or.inr ⟨by omega, by omega⟩) | walk_at "umul"))
  | ((with_reducible refine' s_ixT ?hc ?hd ?_); (case hc => assumption); (case hd => rfl))
  | ((with_reducible refine' s_lenL ?hc ?_); (case hc => first | assumption | exact SqL.of (by assumption))) | ((with_reducible refine' s_lenT ?hc ?_); (case hc => first | assumption | exact SqT.of (by assumption)))
  | ((with_reducible refine' s_divP ?hc ?hd ?_); (case hc => first | decide | assumption | omega); (case hd => first | decide +kernel | assumption)))
local macro_rules | `(tactic| walk_at "us") => `(tactic| repeat walk_at "us2")
local macro_rules | `(tactic| walk_at "uj") => `(tactic| ((walk_at "us"); with_reducible refine s_J ?_))
local macro_rules | `(tactic| walk_at "ua") => `(tactic| ((walk_at "us"); repeat ((first | (refine s_iF ?_) | (refine s_iT ?_)); (walk_at "us"))))
local macro_rules | `(tactic| walk_at "ub") => `(tactic| walk_at "ua")
local macro_rules | `(tactic| walk_at "ux1") => `(tactic| first
  | walk_at "us2" | ((with_reducible refine' s_ixL ?hc ?hd ?_); (case hc => first | assumption | exact SqL.of (by assumption)); (case hd => rfl)) | ((with_reducible refine' s_ixT ?hc ?hd ?_); (case hc => exact SqT.of (by assumption)); (case hd => rfl))
  | ((with_reducible refine' s_intS ?hc ?hd ?_); (case hc => assumption); (case hd => assumption)) | ((with_reducible refine' s_lenS ?hc ?_); (case hc => assumption)))
local macro_rules | `(tactic| walk_at "ux") => `(tactic| repeat walk_at "ux1")
local macro_rules | `(tactic| walk_at "uy") => `(tactic| ((walk_at "ux"); repeat ((first | (refine s_iF ?_) | (refine s_iT ?_)); (walk_at "ux"))))
local macro_rules | `(tactic| walk_at "uz0") => `(tactic| first
  | (with_reducible refine s_seq ?_) | (with_reducible refine s_asg ?_) | (with_reducible refine s_gn ?_) | (with_reducible refine s_ret ?_) | (with_reducible refine s_drop ?_) | (with_reducible refine s_if ?_) | (with_reducible refine s_next ?_)
  | (with_reducible refine s_brk ?_) | (with_reducible refine s_cont ?_)
  | ((with_reducible refine' s_var ?hv ?_); (case hv => exact rfl)) | (with_reducible refine s_c ?_) | (with_reducible refine s_op ?_) | (with_reducible refine s_un ?_) | (with_reducible refine s_cb ?_) | (with_reducible refine s_call ?_)
  | (with_reducible refine s_cons ?_) | (with_reducible refine s_nil ?_) | (with_reducible refine s_test ?_) | (with_reducible refine s_tB ?_) | (with_reducible refine s_not ?_) | (with_reducible refine s_and ?_) | (with_reducible refine s_or ?_)
  | (with_reducible refine s_andV ?_) | (with_reducible refine s_orV ?_) | (with_reducible refine s_notV ?_) | (with_reducible refine s_ifE ?_) | (with_reducible refine s_bl ?_) | (with_reducible refine s_iT ?_) | (with_reducible refine s_iF ?_)
  | (with_reducible refine s_I0 ?_) | (with_reducible refine s_U ?_) | (with_reducible refine s_addI ?_) | (with_reducible refine s_eqI ?_) | (with_reducible refine s_eqS ?_) | (with_reducible refine s_eqB ?_) | (with_reducible refine s_neI ?_) | (with_reducible refine s_neS ?_) | (with_reducible refine s_neB ?_))
local macro_rules | `(tactic| walk_at "uz2") => `(tactic| first
  | walk_at "uz0" | (with_reducible refine s_dput ?_) | ((with_reducible refine' s_mod ?hc ?_); (case hc => first | decide | assumption | omega))
  | (with_reducible refine s_for ?_) | (with_reducible refine s_lc ?_) | (with_reducible refine s_bm ?_) | (with_reducible refine s_ilt ?_) | (with_reducible refine s_izx ?_) | (with_reducible refine s_ienum ?_) | (with_reducible refine s_din ?_) | (with_reducible refine s_dnotin ?_) | (with_reducible refine s_itl ?_) | (with_reducible refine s_itt ?_) | (with_reducible refine s_its ?_) | (with_reducible refine s_itr ?_) | (with_reducible refine s_itr2 ?_) | (with_reducible refine s_disp ?_) | (with_reducible refine s_prn ?_) | (with_reducible refine s_prc ?_) | (with_reducible refine s_m1 ?_) | (with_reducible refine s_isS ?_) | (with_reducible refine s_um1 ?_) | (with_reducible refine s_isB ?_) | (with_reducible refine s_isn ?_) | (with_reducible refine s_notn ?_) | (with_reducible refine s_jd ?_) | (with_reducible refine s_jn ?_) | (with_reducible refine s_jc ?_) | (with_reducible refine s_fmt ?_) | (with_reducible refine s_gc ?_) | (with_reducible refine s_gnil ?_) | (with_reducible refine s_yes ?_) | (with_reducible refine s_raise ?_)
  | ((with_reducible refine' s_pow ?hc ?_); (case hc => exact ⟨by decide, by decide, by decide⟩)) | (with_reducible refine s_int ?_) | (with_reducible refine s_intB ?_) | (with_reducible refine s_strS ?_) | (with_reducible refine s_abs ?_) | (with_reducible refine s_max ?_) | (with_reducible refine s_min ?_) | (with_reducible refine s_gcd ?_)
  | (with_reducible refine s_chain ?_) | (with_reducible refine s_sl ?_) | (with_reducible refine s_noP ?_) | (with_reducible refine s_part ?_) | (with_reducible refine s_exI ?_) 
  | ((with_reducible refine' s_mulI ?hc ?_); (case hc => first | exact Or.inl (Or.inr ⟨by decide, by decide⟩) | exact Or.inl (Or.inl ⟨by decide, by decide⟩) | exact Or.inl (Or.inl ⟨by omega, by omega⟩) | exact Or.inl (Or.inr ⟨by omega, by omega⟩) | walk_at "umul"))
  | ((with_reducible refine' s_ixT ?hc ?hd ?_); (case hc => assumption); (case hd => rfl))
  | ((with_reducible refine' s_lenL ?hc ?_); (case hc => first | assumption | exact SqL.of (by assumption))) | ((with_reducible refine' s_lenT ?hc ?_); (case hc => first | assumption | exact SqT.of (by assumption)))
  | ((with_reducible refine' s_divP ?hc ?hd ?_); (case hc => first | decide | assumption | omega); (case hd => first | decide +kernel | assumption)))
local macro_rules | `(tactic| walk_at "uz1") => `(tactic| first
  | walk_at "uz2" | ((with_reducible refine' s_ixL ?hc ?hd ?_); (case hc => first | assumption | exact SqL.of (by assumption)); (case hd => rfl)) | ((with_reducible refine' s_ixT ?hc ?hd ?_); (case hc => exact SqT.of (by assumption)); (case hd => rfl))
  | ((with_reducible refine' s_intS ?hc ?hd ?_); (case hc => assumption); (case hd => assumption)) | ((with_reducible refine' s_lenS ?hc ?_); (case hc => assumption)))
local macro_rules | `(tactic| walk_at "uz") => `(tactic| ((repeat walk_at "uz1"); repeat ((first | (refine s_iF ?_) | (refine s_iT ?_)); (repeat walk_at "uz1"))))
theorem low_one {c : Nat} (h : c ∈ ("abcdefghijklmnopqrstuvwxyz" : Str).cps.toList) : 97 ≤ c ∧ c ≤ 122 := by
  have h6 : ∀ d ∈ ("abcdefghijklmnopqrstuvwxyz" : Str).cps.toList, 97 ≤ d ∧ d ≤ 122 := by decide +kernel
  exact h6 c h
theorem join_signs (cs : List Nat) : Txt.join "" (cs.map fun c => (⟨#[c]⟩ : Str)) = ⟨cs.toArray⟩ := by
  refine TL.ext_tl ?_
  rw [TL.join_eq, TL.tl_join]
  show TL.joinL [] ((cs.map fun c => (⟨#[c]⟩ : Str)).map TL.tl) = cs
  induction cs with
  | nil => rfl
  | cons c r ih =>
    cases r with
    | nil => rfl
    | cons d r => exact congrArg (c :: ·) ih
theorem sum_signs (cs : List Nat) : ((cs.map fun c => (⟨#[c]⟩ : Str)).map (fun x => x.length)).sum = cs.length := by
  induction cs with
  | nil => rfl
  | cons c r ih => rw [List.map_cons, List.map_cons, List.sum_cons, ih, List.length_cons]; show 1 + r.length = _; omega
section
variable {P : Program} {w : World} {K : PySem.W.Frag} {mg : Str → Option Value} {base : Heap}
variable {cE cH cU cW : Addr}
theorem ok_l_letters_of (T : Tp P K mg cE cH cU cW)
    (c_l_pick : Cal P w K mg base 1 "_law_pick" P_l_pick [] (spPick))
    {f : Addr} {fd : FuncData} {dvs : List V} (F : FunD K "_law_letters_of" "_law_letters_of" (defArgs s_l_letters_of) (defBody s_l_letters_of) (defScope s_l_letters_of) dvs [] f fd) : FnG P w K mg base 2 f fd P_l_letters_of (spLetters) := by
  refine fng F sc_l_letters_of (by walk_at "ulen") (fun cdv A outer s H vs Q E hr0 hg0 h => ?_)
  have hr : Rm 1 (A.deeper (envOfC "_law_letters_of" (defScope s_l_letters_of) s.heap.objs.size f cdv)) := ⟨hr0, hg0⟩
  have nd : N_l_letters_of.Nodup := sc_l_letters_of.nd
  obtain ⟨b, m, rfl, hb, m0, m1, k⟩ := h
  refine ⟨_, (pss_one (ps_ret (pe_join pe_str (pe_lc (own := [("_law_k", 2)]) (g := gName 2) (by rfl) nd (pi_range1 (by rfl) T.range (pa_cons (pv 1) pa_nil)) (blkOk_by (own := [("_law_k", 2)]) (N := N_l_letters_of) (sc := defScope s_l_letters_of) (by decide +kernel)) (fun s_ H_ C_ cl_ fp_ => pg_name (i := 2) nd rfl (Or.inl rfl)) (fun s_ H_ C_ cl_ fp_ => pts_nil) (fun s_ H_ C_ cl_ fp_ => (pe_ix (ix_seqK (K := K) rfl) pe_str (pe_c (E := En) c_l_pick (hr.mono (by decide)) paN (pa_cons (pv 0) (pa_cons pe_int pa_nil))) (fun _ _ => rfl))))))), ?_⟩
  walk_at "uk"
  walk_at "ux"
  have lw : (("abcdefghijklmnopqrstuvwxyz" : Str)).length ≤ sizeLine := by decide +kernel
  refine ⟨m, rfl, by omega, by omega, ?_⟩
  refine lcRng (fun D i acc H' => Kb b H H' ∧ H' D = some (.lst acc) ∧ ∃ cs : List Nat, cs.length = i ∧ acc = cs.map (fun c => V.str ⟨#[c]⟩) ∧ ∀ c ∈ cs, 97 ≤ c ∧ c ≤ 122) (fun D hD => ⟨(Kb.refl hb).put hD _, upd_same, [], rfl, rfl, fun c hc => by cases hc⟩) ?_ ?_
  · rintro D acc H' hD ⟨kh, hd, cs, hl, rfl, hc⟩
    refine ⟨"", D, cs.map (fun c => (⟨#[c]⟩ : Str)), rfl, rfl, .inl (.of (by rw [List.map_map]; exact hd)), by rw [sum_signs]; show cs.length + _ * 0 ≤ _; omega, ?_⟩
    walk_at "ux"
    rw [join_signs]
    exact k _ _ (by show (cs.toArray.size : Int) = m; rw [List.size_toArray]; omega) (fun c h => hc c h) kh
  · rintro D i acc H' hD hi ⟨kh, hd, cs, hl, rfl, hc⟩
    walk_at "ux"
    refine ⟨rfl, ?_⟩
    walk_at "ux"
    refine ⟨b, 26, rfl, kh.b1, by decide, by decide, fun r H2 r0 r1 k2 => ?_⟩
    obtain ⟨c, hcx, hm⟩ := ix_str (z := "abcdefghijklmnopqrstuvwxyz") r0 (by exact r1)
    refine s_ixS lw hcx ?_
    have k3 := kh.tr k2
    exact ⟨_, k2.at hd (fun _ z => by cases z), by rw [List.length_map]; show _ < 16777216; omega, _, k3.put hD _, upd_same, cs ++ [c], by rw [List.length_append, hl]; rfl, by rw [List.map_append]; rfl, fun c' h' => by
      rcases List.mem_append.mp h' with h' | h'
      · exact hc c' h'
      · rw [List.mem_singleton.mp h']
        exact low_one hm⟩
end
end Lw

set_option Elab.async false
set_option linter.all false
set_option maxRecDepth 100000
set_option maxHeartbeats 4000000
namespace Lw
open PySem PySem.Spec L2 Uv
open PyProof.Rows hiding St
local macro_rules | `(tactic| walk_at "umul") => `(tactic| fail)
local macro_rules | `(tactic| walk_at "us1") => `(tactic| first
  | (with_reducible refine s_seq ?_) | (with_reducible refine s_asg ?_) | (with_reducible refine s_gn ?_) | (with_reducible refine s_ret ?_) | (with_reducible refine s_drop ?_) | (with_reducible refine s_if ?_) | (with_reducible refine s_next ?_)
  | (with_reducible refine s_brk ?_) | (with_reducible refine s_cont ?_)
  | ((with_reducible refine' s_var ?hv ?_); (case hv => exact rfl)) | (with_reducible refine s_c ?_) | (with_reducible refine s_op ?_) | (with_reducible refine s_un ?_) | (with_reducible refine s_cb ?_) | (with_reducible refine s_call ?_)
  | (with_reducible refine s_cons ?_) | (with_reducible refine s_nil ?_) | (with_reducible refine s_test ?_) | (with_reducible refine s_tB ?_) | (with_reducible refine s_not ?_) | (with_reducible refine s_and ?_) | (with_reducible refine s_or ?_)
  | (with_reducible refine s_andV ?_) | (with_reducible refine s_orV ?_) | (with_reducible refine s_notV ?_) | (with_reducible refine s_ifE ?_) | (with_reducible refine s_bl ?_) | (with_reducible refine s_iT ?_) | (with_reducible refine s_iF ?_)
  | (with_reducible refine s_I0 ?_) | (with_reducible refine s_U ?_) | (with_reducible refine s_addI ?_) | (with_reducible refine s_eqI ?_) | (with_reducible refine s_eqS ?_) | (with_reducible refine s_eqB ?_) | (with_reducible refine s_neI ?_) | (with_reducible refine s_neS ?_) | (with_reducible refine s_neB ?_)
  | (with_reducible refine s_tupE ?_) | (with_reducible refine s_lstE ?_))
local macro_rules | `(tactic| walk_at "us") => `(tactic| repeat walk_at "us1")
local macro_rules | `(tactic| walk_at "ulen") => `(tactic| (intro vs H Q E h; repeat' (first | (obtain ⟨e, _⟩ := h; subst e; rfl) | (subst h; rfl) | (refine Or.elim h (fun h => ?_) (fun h => ?_)) | (obtain ⟨_, h⟩ := h))))
local macro_rules | `(tactic| walk_at "uk") => `(tactic| (try dsimp only [cxOf, Cx.suite, Cx.tr]))
local macro_rules | `(tactic| walk_at "us2") => `(tactic| first
  | walk_at "us1" | (with_reducible refine s_dput ?_) | ((with_reducible refine' s_mod ?hc ?_); (case hc => first | decide | assumption | omega))
  | (with_reducible refine s_for ?_) | (with_reducible refine s_lc ?_) | (with_reducible refine s_bm ?_) | (with_reducible refine s_ilt ?_) | (with_reducible refine s_izx ?_) | (with_reducible refine s_ienum ?_) | (with_reducible refine s_din ?_) | (with_reducible refine s_dnotin ?_) | (with_reducible refine s_itl ?_) | (with_reducible refine s_itt ?_) | (with_reducible refine s_its ?_) | (with_reducible refine s_itr ?_) | (with_reducible refine s_itr2 ?_) | (with_reducible refine s_disp ?_) | (with_reducible refine s_prn ?_) | (with_reducible refine s_prc ?_) | (with_reducible refine s_m1 ?_) | (with_reducible refine s_isS ?_) | (with_reducible refine s_um1 ?_) | (with_reducible refine s_isB ?_) | (with_reducible refine s_isn ?_) | (with_reducible refine s_notn ?_) | (with_reducible refine s_jd ?_) | (with_reducible refine s_jn ?_) | (with_reducible refine s_jc ?_) | (with_reducible refine s_fmt ?_) | (with_reducible refine s_gc ?_) | (with_reducible refine s_gnil ?_) | (with_reducible refine s_yes ?_) | (with_reducible refine s_raise ?_)
  | ((with_reducible refine' s_pow ?hc ?_); (case hc => exact ⟨by decide, by decide, by decide⟩)) | (with_reducible refine s_int ?_) | (with_reducible refine s_intB ?_) | (with_reducible refine s_strS ?_) | (with_reducible refine s_abs ?_) | (with_reducible refine s_max ?_) | (with_reducible refine s_min ?_) | (with_reducible refine s_gcd ?_)
  | (with_reducible refine s_chain ?_) | (with_reducible refine s_sl ?_) | (with_reducible refine s_noP ?_) | (with_reducible refine s_part ?_) | (with_reducible refine s_exI ?_) 
  | ((with_reducible refine' s_mulI ?hc ?_); (case hc => first | exact Or.inl (Or.inr ⟨by decide, by decide⟩) | exact Or.inl (Or.inl ⟨by decide, by decide⟩) | exact Or.inl (Or.inl ⟨by omega, by omega⟩) | exact Or.inl (Or.inr ⟨by omega, by omega⟩) | walk_at "umul"))
  | ((with_reducible refine' s_ixT ?hc ?hd ?_); (case hc => assumption); (case hd => rfl))
  | ((with_reducible refine' s_lenL ?hc ?_); (case hc => first | assumption | exact SqL.of (by assumption))) | ((with_reducible refine' s_lenT ?hc ?_); (case hc => first | assumption | exact SqT.of (by assumption)))
  | ((with_reducible refine' s_divP ?hc ?hd ?_); (case hc => first | decide | assumption | omega); (case hd => first | decide +kernel | assumption)))
local macro_rules | `(tactic| walk_at "us") => `(tactic| repeat walk_at "us2")
local macro_rules | `(tactic| walk_at "uj") => `(tactic| ((walk_at "us"); with_reducible refine s_J ?_))
local macro_rules | `(tactic| walk_at "ua") => `(tactic| ((walk_at "us"); repeat ((first | (refine s_iF ?_) | (refine s_iT ?_)); (walk_at "us"))))
local macro_rules | `(tactic| walk_at "ub") => `(tactic| walk_at "ua")
local macro_rules | `(tactic| walk_at "ux1") => `(tactic| first
  | walk_at "us2" | ((with_reducible refine' s_ixL ?hc ?hd ?_); (case hc => first | assumption | exact SqL.of (by assumption)); (case hd => rfl)) | ((with_reducible refine' s_ixT ?hc ?hd ?_); (case hc => exact SqT.of (by assumption)); (case hd => rfl))
  | ((with_reducible refine' s_intS ?hc ?hd ?_); (case hc => assumption); (case hd => assumption)) | ((with_reducible refine' s_lenS ?hc ?_); (case hc => assumption)))
local macro_rules | `(tactic| walk_at "ux") => `(tactic| repeat walk_at "ux1")
local macro_rules | `(tactic| walk_at "uy") => `(tactic| ((walk_at "ux"); repeat ((first | (refine s_iF ?_) | (refine s_iT ?_)); (walk_at "ux"))))
local macro_rules | `(tactic| walk_at "uz0") => `(tactic| first
  | (with_reducible refine s_seq ?_) | (with_reducible refine s_asg ?_) | (with_reducible refine s_gn ?_) | (with_reducible refine s_ret ?_) | (with_reducible refine s_drop ?_) | (with_reducible refine s_if ?_) | (with_reducible refine s_next ?_)
  | (with_reducible refine s_brk ?_) | (with_reducible refine s_cont ?_)
  | ((with_reducible refine' s_var ?hv ?_); (case hv => exact rfl)) | (with_reducible refine s_c ?_) | (with_reducible refine s_op ?_) | (with_reducible refine s_un ?_) | (with_reducible refine s_cb ?_) | (with_reducible refine s_call ?_)
  | (with_reducible refine s_cons ?_) | (with_reducible refine s_nil ?_) | (with_reducible refine s_test ?_) | (with_reducible refine s_tB ?_) | (with_reducible refine s_not ?_) | (with_reducible refine s_and ?_) | (with_reducible refine s_or ?_)
  | (with_reducible refine s_andV ?_) | (with_reducible refine s_orV ?_) | (with_reducible refine s_notV ?_) | (with_reducible refine s_ifE ?_) | (with_reducible refine s_bl ?_) | (with_reducible refine s_iT ?_) | (with_reducible refine s_iF ?_)
  | (with_reducible refine s_I0 ?_) | (with_reducible refine s_U ?_) | (with_reducible refine s_addI ?_) | (with_reducible refine s_eqI ?_) | (with_reducible refine s_eqS ?_) | (with_reducible refine s_eqB ?_) | (with_reducible refine s_neI ?_) | (with_reducible refine s_neS ?_) | (with_reducible refine s_neB ?_))
local macro_rules | `(tactic| walk_at "uz2") => `(tactic| first
  | walk_at "uz0" | (with_reducible refine s_dput ?_) | ((with_reducible refine' s_mod ?hc ?_); (case hc => first | decide | assumption | omega))
  | (with_reducible refine s_for ?_) | (with_reducible refine s_lc ?_) | (with_reducible refine s_bm ?_) | (with_reducible refine s_ilt ?_) | (with_reducible refine s_izx ?_) | (with_reducible refine s_ienum ?_) | (with_reducible refine s_din ?_) | (with_reducible refine s_dnotin ?_) | (with_reducible refine s_itl ?_) | (with_reducible refine s_itt ?_) | (with_reducible refine s_its ?_) | (with_reducible refine s_itr ?_) | (with_reducible refine s_itr2 ?_) | (with_reducible refine s_disp ?_) | (with_reducible refine s_prn ?_) | (with_reducible refine s_prc ?_) | (with_reducible refine s_m1 ?_) | (with_reducible refine s_isS ?_) | (with_reducible refine s_um1 ?_) | (with_reducible refine s_isB ?_) | (with_reducible refine s_isn ?_) | (with_reducible refine s_notn ?_) | (with_reducible refine s_jd ?_) | (with_reducible refine s_jn ?_) | (with_reducible refine s_jc ?_) | (with_reducible refine s_fmt ?_) | (with_reducible refine s_gc ?_) | (with_reducible refine s_gnil ?_) | (with_reducible refine s_yes ?_) | (with_reducible refine s_raise ?_)
  | ((with_reducible refine' s_pow ?hc ?_); (case hc => exact ⟨by decide, by decide, by decide⟩)) | (with_reducible refine s_int ?_) | (with_reducible refine s_intB ?_) | (with_reducible refine s_strS ?_) | (with_reducible refine s_abs ?_) | (with_reducible refine s_max ?_) | (with_reducible refine s_min ?_) | (with_reducible refine s_gcd ?_)
  | (with_reducible refine s_chain ?_) | (with_reducible refine s_sl ?_) | (with_reducible refine s_noP ?_) | (with_reducible refine s_part ?_) | (with_reducible refine s_exI ?_) 
  | ((with_reducible refine' s_mulI ?hc ?_); (case hc => first | exact Or.inl (Or.inr ⟨by decide, by decide⟩) | exact Or.inl (Or.inl ⟨by decide, by decide⟩) | exact Or.inl (Or.inl ⟨by omega, by omega⟩) | exact Or.inl (Or.inr ⟨by omega, by omega⟩) | walk_at "umul"))
  | ((with_reducible refine' s_ixT ?hc ?hd ?_); (case hc => assumption); (case hd => rfl))
  | ((with_reducible refine' s_lenL ?hc ?_); (case hc => first | assumption | exact SqL.of (by assumption))) | ((with_reducible refine' s_lenT ?hc ?_); (case hc => first | assumption | exact SqT.of (by assumption)))
  | ((with_reducible refine' s_divP ?hc ?hd ?_); (case hc => first | decide | assumption | omega); (case hd => first | decide +kernel | assumption)))
local macro_rules | `(tactic| walk_at "uz1") => `(tactic| first
  | walk_at "uz2" | ((with_reducible refine' s_ixL ?hc ?hd ?_); (case hc => first | assumption | exact SqL.of (by assumption)); (case hd => rfl)) | ((with_reducible refine' s_ixT ?hc ?hd ?_); (case hc => exact SqT.of (by assumption)); (case hd => rfl))
  | ((with_reducible refine' s_intS ?hc ?hd ?_); (case hc => assumption); (case hd => assumption)) | ((with_reducible refine' s_lenS ?hc ?_); (case hc => assumption)))
local macro_rules | `(tactic| walk_at "uz") => `(tactic| ((repeat walk_at "uz1"); repeat ((first | (refine s_iF ?_) | (refine s_iT ?_)); (repeat walk_at "uz1"))))
theorem words_split : Txt.split ((("days base unit device feature role job procedure takes uses read by let be tell in judge good bad choose " : Str) ++ "passed failed open repeat leave call stop end size offset news cert stand jolt edition strike told ") ++ "within sum product quotient card spot row ground nobody") " " = wordsV := TL.map_tl_inj (by decide +kernel)
section
variable {P : Program} {w : World} {K : PySem.W.Frag} {mg : Str → Option Value} {base : Heap}
variable {cE cH cU cW : Addr}
theorem ok_l_words (T : Tp P K mg cE cH cU cW)
    {f : Addr} {fd : FuncData} {dvs : List V} (F : FunD K "_law_words" "_law_words" (defArgs s_l_words) (defBody s_l_words) (defScope s_l_words) dvs [] f fd) : FnG P w K mg base 1 f fd P_l_words (spWords) := by
  refine fng F sc_l_words (by walk_at "ulen") (fun cdv A outer s H vs Q E hr0 hg0 h => ?_)
  have hr : Rm 0 (A.deeper (envOfC "_law_words" (defScope s_l_words) s.heap.objs.size f cdv)) := ⟨hr0, hg0⟩
  have nd : N_l_words.Nodup := sc_l_words.nd
  obtain ⟨rfl, k⟩ := h
  refine ⟨_, (pss_cons (ps_set (i := 0) nd rfl (Or.inl rfl) pe_str)
    (pss_cons (ps_set (i := 0) nd rfl (Or.inl rfl) (pe_op op_uAdd (pv 0) pe_str))
    (pss_one (ps_ret (pe_m1 PySem.F.slot_str_split PySem.F.type_str_split mt_uSplit (pe_op op_uAdd (pv 0) pe_str) pe_str))))), ?_⟩
  walk_at "uk"
  walk_at "ux"
  refine s_addS (by decide +kernel) ?_
  walk_at "ux"
  refine s_addS (by decide +kernel) ?_
  walk_at "ux"
  refine s_usplit (b := " ") (by decide +kernel) (by decide +kernel) fun p hp => ?_
  rw [words_split]
  exact k p _ hp (exN hp) upd_same
end
end Lw

set_option Elab.async false
set_option linter.all false
set_option maxRecDepth 100000
set_option maxHeartbeats 4000000
namespace Lw
open PySem PySem.Spec L2 Uv
open PyProof.Rows hiding St
local macro_rules | `(tactic| walk_at "umul") => `(tactic| fail)
local macro_rules | `(tactic| walk_at "us1") => `(tactic| first
  | (with_reducible refine s_seq ?_) | (with_reducible refine s_asg ?_) | (with_reducible refine s_gn ?_) | (with_reducible refine s_ret ?_) | (with_reducible refine s_drop ?_) | (with_reducible refine s_if ?_) | (with_reducible refine s_next ?_)
  | (with_reducible refine s_brk ?_) | (with_reducible refine s_cont ?_)
  | ((with_reducible refine' s_var ?hv ?_); (case hv => exact rfl)) | (with_reducible refine s_c ?_) | (with_reducible refine s_op ?_) | (with_reducible refine s_un ?_) | (with_reducible refine s_cb ?_) | (with_reducible refine s_call ?_)
  | (with_reducible refine s_cons ?_) | (with_reducible refine s_nil ?_) | (with_reducible refine s_test ?_) | (with_reducible refine s_tB ?_) | (with_reducible refine s_not ?_) | (with_reducible refine s_and ?_) | (with_reducible refine s_or ?_)
  | (with_reducible refine s_andV ?_) | (with_reducible refine s_orV ?_) | (with_reducible refine s_notV ?_) | (with_reducible refine s_ifE ?_) | (with_reducible refine s_bl ?_) | (with_reducible refine s_iT ?_) | (with_reducible refine s_iF ?_)
  | (with_reducible refine s_I0 ?_) | (with_reducible refine s_U ?_) | (with_reducible refine s_addI ?_) | (with_reducible refine s_eqI ?_) | (with_reducible refine s_eqS ?_) | (with_reducible refine s_eqB ?_) | (with_reducible refine s_neI ?_) | (with_reducible refine s_neS ?_) | (with_reducible refine s_neB ?_)
  | (with_reducible refine s_tupE ?_) | (with_reducible refine s_lstE ?_))
local macro_rules | `(tactic| walk_at "us") => `(tactic| repeat walk_at "us1")
local macro_rules | `(tactic| walk_at "ulen") => `(tactic| (intro vs H Q E h; repeat' (first | (obtain ⟨e, _⟩ := h; subst e; rfl) | (subst h; rfl) | (refine Or.elim h (fun h => ?_) (fun h => ?_)) | (obtain ⟨_, h⟩ := h))))
local macro_rules | `(tactic| walk_at "uk") => `(tactic| (try dsimp only [cxOf, Cx.suite, Cx.tr]))
local macro_rules | `(tactic| walk_at "us2") => `(tactic| first
  | walk_at "us1" | (with_reducible refine s_dput ?_) | ((with_reducible refine' s_mod ?hc ?_); (case hc => first | decide | assumption | omega))
  | (with_reducible refine s_for ?_) | (with_reducible refine s_lc ?_) | (with_reducible refine s_bm ?_) | (with_reducible refine s_ilt ?_) | (with_reducible refine s_izx ?_) | (with_reducible refine s_ienum ?_) | (with_reducible refine s_din ?_) | (with_reducible refine s_dnotin ?_) | (with_reducible refine s_itl ?_) | (with_reducible refine s_itt ?_) | (with_reducible refine s_its ?_) | (with_reducible refine s_itr ?_) | (with_reducible refine s_itr2 ?_) | (with_reducible refine s_disp ?_) | (with_reducible refine s_prn ?_) | (with_reducible refine s_prc ?_) | (with_reducible refine s_m1 ?_) | (with_reducible refine s_isS ?_) | (with_reducible refine s_um1 ?_) | (with_reducible refine s_isB ?_) | (with_reducible refine s_isn ?_) | (with_reducible refine s_notn ?_) | (with_reducible refine s_jd ?_) | (with_reducible refine s_jn ?_) | (with_reducible refine s_jc ?_) | (with_reducible refine s_fmt ?_) | (with_reducible refine s_gc ?_) | (with_reducible refine s_gnil ?_) | (with_reducible refine s_yes ?_) | (with_reducible refine s_raise ?_)
  | ((with_reducible refine' s_pow ?hc ?_); (case hc => exact ⟨by decide, by decide, by decide⟩)) | (with_reducible refine s_int ?_) | (with_reducible refine s_intB ?_) | (with_reducible refine s_strS ?_) | (with_reducible refine s_abs ?_) | (with_reducible refine s_max ?_) | (with_reducible refine s_min ?_) | (with_reducible refine s_gcd ?_)
  | (with_reducible refine s_chain ?_) | (with_reducible refine s_sl ?_) | (with_reducible refine s_noP ?_) | (with_reducible refine s_part ?_) | (with_reducible refine s_exI ?_) 
  | ((with_reducible refine' s_mulI ?hc ?_); (case hc => first | exact Or.inl (Or.inr ⟨by decide, by decide⟩) | exact Or.inl (Or.inl ⟨by decide, by decide⟩) | exact Or.inl (Or.inl ⟨by omega, by omega⟩) | exact Or.inl (Or.inr ⟨by omega, by omega⟩) | walk_at "umul"))
  | ((with_reducible refine' s_ixT ?hc ?hd ?_); (case hc => assumption); (case hd => rfl))
  | ((with_reducible refine' s_lenL ?hc ?_); (case hc => first | assumption | exact SqL.of (by assumption))) | ((with_reducible refine' s_lenT ?hc ?_); (case hc => first | assumption | exact SqT.of (by assumption)))
  | ((with_reducible refine' s_divP ?hc ?hd ?_); (case hc => first | decide | assumption | omega); (case hd => first | decide +kernel | assumption)))
local macro_rules | `(tactic| walk_at "us") => `(tactic| repeat walk_at "us2")
local macro_rules | `(tactic| walk_at "uj") => `(tactic| ((walk_at "us"); with_reducible refine s_J ?_))
local macro_rules | `(tactic| walk_at "ua") => `(tactic| ((walk_at "us"); repeat ((first | (refine s_iF ?_) | (refine s_iT ?_)); (walk_at "us"))))
local macro_rules | `(tactic| walk_at "ub") => `(tactic| walk_at "ua")
local macro_rules | `(tactic| walk_at "ux1") => `(tactic| first
  | walk_at "us2" | ((with_reducible refine' s_ixL ?hc ?hd ?_); (case hc => first | assumption | exact SqL.of (by assumption)); (case hd => rfl)) | ((with_reducible refine' s_ixT ?hc ?hd ?_); (case hc => exact SqT.of (by assumption)); (case hd => rfl))
  | ((with_reducible refine' s_intS ?hc ?hd ?_); (case hc => assumption); (case hd => assumption)) | ((with_reducible refine' s_lenS ?hc ?_); (case hc => assumption)))
local macro_rules | `(tactic| walk_at "ux") => `(tactic| repeat walk_at "ux1")
local macro_rules | `(tactic| walk_at "uy") => `(tactic| ((walk_at "ux"); repeat ((first | (refine s_iF ?_) | (refine s_iT ?_)); (walk_at "ux"))))
local macro_rules | `(tactic| walk_at "uz0") => `(tactic| first
  | (with_reducible refine s_seq ?_) | (with_reducible refine s_asg ?_) | (with_reducible refine s_gn ?_) | (with_reducible refine s_ret ?_) | (with_reducible refine s_drop ?_) | (with_reducible refine s_if ?_) | (with_reducible refine s_next ?_)
  | (with_reducible refine s_brk ?_) | (with_reducible refine s_cont ?_)
  | ((with_reducible refine' s_var ?hv ?_); (case hv => exact rfl)) | (with_reducible refine s_c ?_) | (with_reducible refine s_op ?_) | (with_reducible refine s_un ?_) | (with_reducible refine s_cb ?_) | (with_reducible refine s_call ?_)
  | (with_reducible refine s_cons ?_) | (with_reducible refine s_nil ?_) | (with_reducible refine s_test ?_) | (with_reducible refine s_tB ?_) | (with_reducible refine s_not ?_) | (with_reducible refine s_and ?_) | (with_reducible refine s_or ?_)
  | (with_reducible refine s_andV ?_) | (with_reducible refine s_orV ?_) | (with_reducible refine s_notV ?_) | (with_reducible refine s_ifE ?_) | (with_reducible refine s_bl ?_) | (with_reducible refine s_iT ?_) | (with_reducible refine s_iF ?_)
  | (with_reducible refine s_I0 ?_) | (with_reducible refine s_U ?_) | (with_reducible refine s_addI ?_) | (with_reducible refine s_eqI ?_) | (with_reducible refine s_eqS ?_) | (with_reducible refine s_eqB ?_) | (with_reducible refine s_neI ?_) | (with_reducible refine s_neS ?_) | (with_reducible refine s_neB ?_))
local macro_rules | `(tactic| walk_at "uz2") => `(tactic| first
  | walk_at "uz0" | (with_reducible refine s_dput ?_) | ((with_reducible refine' s_mod ?hc ?_); (case hc => first | decide | assumption | omega))
  | (with_reducible refine s_for ?_) | (with_reducible refine s_lc ?_) | (with_reducible refine s_bm ?_) | (with_reducible refine s_ilt ?_) | (with_reducible refine s_izx ?_) | (with_reducible refine s_ienum ?_) | (with_reducible refine s_din ?_) | (with_reducible refine s_dnotin ?_) | (with_reducible refine s_itl ?_) | (with_reducible refine s_itt ?_) | (with_reducible refine s_its ?_) | (with_reducible refine s_itr ?_) | (with_reducible refine s_itr2 ?_) | (with_reducible refine s_disp ?_) | (with_reducible refine s_prn ?_) | (with_reducible refine s_prc ?_) | (with_reducible refine s_m1 ?_) | (with_reducible refine s_isS ?_) | (with_reducible refine s_um1 ?_) | (with_reducible refine s_isB ?_) | (with_reducible refine s_isn ?_) | (with_reducible refine s_notn ?_) | (with_reducible refine s_jd ?_) | (with_reducible refine s_jn ?_) | (with_reducible refine s_jc ?_) | (with_reducible refine s_fmt ?_) | (with_reducible refine s_gc ?_) | (with_reducible refine s_gnil ?_) | (with_reducible refine s_yes ?_) | (with_reducible refine s_raise ?_)
  | ((with_reducible refine' s_pow ?hc ?_); (case hc => exact ⟨by decide, by decide, by decide⟩)) | (with_reducible refine s_int ?_) | (with_reducible refine s_intB ?_) | (with_reducible refine s_strS ?_) | (with_reducible refine s_abs ?_) | (with_reducible refine s_max ?_) | (with_reducible refine s_min ?_) | (with_reducible refine s_gcd ?_)
  | (with_reducible refine s_chain ?_) | (with_reducible refine s_sl ?_) | (with_reducible refine s_noP ?_) | (with_reducible refine s_part ?_) | (with_reducible refine s_exI ?_) 
  | ((with_reducible refine' s_mulI ?hc ?_); (case hc => first | exact Or.inl (Or.inr ⟨by decide, by decide⟩) | exact Or.inl (Or.inl ⟨by decide, by decide⟩) | exact Or.inl (Or.inl ⟨by omega, by omega⟩) | exact Or.inl (Or.inr ⟨by omega, by omega⟩) | walk_at "umul"))
  | ((with_reducible refine' s_ixT ?hc ?hd ?_); (case hc => assumption); (case hd => rfl))
  | ((with_reducible refine' s_lenL ?hc ?_); (case hc => first | assumption | exact SqL.of (by assumption))) | ((with_reducible refine' s_lenT ?hc ?_); (case hc => first | assumption | exact SqT.of (by assumption)))
  | ((with_reducible refine' s_divP ?hc ?hd ?_); (case hc => first | decide | assumption | omega); (case hd => first | decide +kernel | assumption)))
local macro_rules | `(tactic| walk_at "uz1") => `(tactic| first
  | walk_at "uz2" | ((with_reducible refine' s_ixL ?hc ?hd ?_); (case hc => first | assumption | exact SqL.of (by assumption)); (case hd => rfl)) | ((with_reducible refine' s_ixT ?hc ?hd ?_); (case hc => exact SqT.of (by assumption)); (case hd => rfl))
  | ((with_reducible refine' s_intS ?hc ?hd ?_); (case hc => assumption); (case hd => assumption)) | ((with_reducible refine' s_lenS ?hc ?_); (case hc => assumption)))
local macro_rules | `(tactic| walk_at "uz") => `(tactic| ((repeat walk_at "uz1"); repeat ((first | (refine s_iF ?_) | (refine s_iT ?_)); (repeat walk_at "uz1"))))
theorem mulok1 (c : Nat) {n : Int} (h0 : 0 ≤ n) (h1 : n ≤ 1000) : MulOk ⟨#[c]⟩ n := by
  refine ⟨by simp; omega, fun h _ q => ?_, fun _ _ => ?_⟩
  · have e : ((⟨#[c]⟩ : Str).length : Int) = 1 := rfl
    rw [e] at q
    have : 1 ≤ (2 ^ 63 - 1) / n := Int.le_ediv_of_mul_le (by omega) (by omega)
    omega
  · exact decide_eq_false (show ¬ (1 * n.toNat > 16777216) by omega)
theorem mullen1 (c : Nat) {n : Int} (N : Nat) (h : n ≤ (N : Int)) : (Txt.mul ⟨#[c]⟩ n).length ≤ N := len_mul_one rfl h
theorem words_z : ∀ w ∈ wordsV, ¬ (122 ∈ w.cps.toList ∧ w.cps.toList.getLast? = some 97) := by
  have h : wordsV.all (fun w => !(w.cps.toList.contains 122 && w.cps.toList.getLast? == some 97)) = true := by decide +kernel
  intro w hw
  have := List.all_eq_true.mp h w hw
  rintro ⟨a, b⟩
  rw [List.contains_iff_mem.mpr a, b] at this
  simp at this
theorem words_l : ∀ w ∈ wordsV, 1 ≤ w.length := by
  have h : wordsV.all (fun w => decide (1 ≤ w.length)) = true := by decide +kernel
  intro w hw
  simpa using List.all_eq_true.mp h w hw
/-- a name with its place -/
structure NmAt (i : Nat) (z : Str) : Prop where
  l1 : 1 ≤ z.length
  l2 : z.length ≤ 7
  low : low z
  end_ : z.length = 7 → z.cps.toList.drop 5 = [97 + i, 97]
/-- the names so far -/
structure Gen (zs : List Str) : Prop where
  nd : zs.Nodup
  own : ∀ z ∈ zs, z ∉ wordsV
  at_ : ∀ i z, zs[i]? = some z → NmAt i z
def cand (d : Str) (k s : Nat) : Str := ⟨(d.cps.toList.take 2 ++ List.replicate s 122 ++ [97 + k, 97]).toArray⟩
theorem cand_len (d : Str) (k s : Nat) : (cand d k s).length = min 2 d.length + s + 2 := by
  show (d.cps.toList.take 2 ++ List.replicate s 122 ++ [97 + k, 97]).toArray.size = _
  rw [List.size_toArray]
  simp [PySem.Str.length]
  omega
theorem cand_low {d : Str} {k s : Nat} (hd : low d) (hk : k < 26) : low (cand d k s) := by
  intro c hc
  have hc' : c ∈ d.cps.toList.take 2 ++ List.replicate s 122 ++ [97 + k, 97] := hc
  simp only [List.mem_append, List.mem_cons, List.not_mem_nil, or_false, List.mem_replicate] at hc'
  rcases hc' with (h | ⟨_, h⟩) | (h | h)
  · exact hd c (List.mem_of_mem_take h)
  · omega
  · omega
  · omega
theorem cand_z {d : Str} {k s : Nat} (hs : 1 ≤ s) : 122 ∈ (cand d k s).cps.toList := by
  show 122 ∈ d.cps.toList.take 2 ++ List.replicate s 122 ++ [97 + k, 97]
  exact List.mem_append_left _ (List.mem_append_right _ (List.mem_replicate.mpr ⟨by omega, rfl⟩))
theorem cand_last (d : Str) (k s : Nat) : (cand d k s).cps.toList.getLast? = some 97 := by
  show (d.cps.toList.take 2 ++ List.replicate s 122 ++ [97 + k, 97]).getLast? = some 97
  rw [List.getLast?_append]
  rfl
theorem cand_end {d : Str} {k s : Nat} (h : (cand d k s).length = 7) : (cand d k s).cps.toList.drop 5 = [97 + k, 97] := by
  have e := cand_len d k s
  show (d.cps.toList.take 2 ++ List.replicate s 122 ++ [97 + k, 97]).drop 5 = _
  have l5 : (d.cps.toList.take 2 ++ List.replicate s 122).length = 5 := by
    rw [List.length_append, List.length_take, List.length_replicate]
    have : d.cps.toList.length = d.length := Array.length_toList
    omega
  rw [← l5, List.drop_left]
/-- a candidate that is taken has at most 6 signs -/
theorem cand_short {zs : List Str} {d : Str} {k s : Nat} (G : Gen zs) (hk : zs.length = k) (hs : 1 ≤ s) (l : (cand d k s).length ≤ 7) (h : cand d k s ∈ wordsV ++ zs) : (cand d k s).length ≤ 6 := by
  rcases List.mem_append.mp h with h | h
  · exact absurd ⟨cand_z hs, cand_last d k s⟩ (words_z _ h)
  · obtain ⟨i, hi⟩ := List.mem_iff_getElem?.mp h
    have hlt : i < zs.length := (List.getElem?_eq_some_iff.mp hi).1
    by_cases e : (cand d k s).length = 7
    · have a := (G.at_ i _ hi).end_ e
      rw [cand_end e] at a
      have : 97 + k = 97 + i := (List.cons.inj a).1
      omega
    · omega
theorem Gen.add {zs : List Str} {z : Str} (G : Gen zs) (n : z ∉ wordsV ++ zs) (a : NmAt zs.length z) : Gen (zs ++ [z]) := by
  have n1 : z ∉ wordsV := fun h => n (List.mem_append_left _ h)
  have n2 : z ∉ zs := fun h => n (List.mem_append_right _ h)
  refine ⟨?_, ?_, ?_⟩
  · rw [List.nodup_append]
    exact ⟨G.nd, by simp, fun x hx y hy => by rw [List.mem_singleton.mp hy]; intro e; exact n2 (e ▸ hx)⟩
  · intro x hx
    rcases List.mem_append.mp hx with hx | hx
    · exact G.own x hx
    · rw [List.mem_singleton.mp hx]; exact n1
  · intro i x hx
    by_cases hi : i < zs.length
    · rw [List.getElem?_append_left hi] at hx
      exact G.at_ i x hx
    · rw [List.getElem?_append_right (by omega)] at hx
      have : i - zs.length = 0 := by
        by_cases q : i - zs.length = 0
        · exact q
        · rw [List.getElem?_eq_none (by simp; omega)] at hx; cases hx
      rw [this] at hx
      cases hx
      rw [show i = zs.length by omega]
      exact a
theorem Gen.names {zs : List Str} (G : Gen zs) : Names zs := ⟨G.nd, fun z hz => by
  obtain ⟨i, hi⟩ := List.mem_iff_getElem?.mp hz
  have a := G.at_ i z hi
  exact ⟨a.l1, by have := a.l2; omega, a.low, G.own z hz⟩⟩
theorem lett (k : Nat) (hk : k < 26) : atI (("abcdefghijklmnopqrstuvwxyz" : Str)).cps.toList (k : Int) = some (97 + k) := by
  have h : ∀ j : Fin 26, (("abcdefghijklmnopqrstuvwxyz" : Str)).cps.toList[j.val]? = some (97 + j.val) := by decide +kernel
  exact atI_nat (h ⟨k, hk⟩)
theorem cand_eq (d : Str) (k s : Nat) : cutS d none (some 2) ++ Txt.mul "z" ((s : Int)) ++ ⟨#[97 + k]⟩ ++ ⟨#[97]⟩ = cand d k s := by
  refine TL.ext_tl ?_
  rw [TL.tl_append, TL.tl_append, TL.tl_append]
  have h1 : TL.tl (cutS d none (some 2)) = d.cps.toList.take 2 := by
    show ((d.cps.toList.drop (HT.sIx d.length 0 none)).take (HT.sIx d.length d.length (some 2) - HT.sIx d.length 0 none)).toArray.toList = _
    rw [HT.sIx_none, show HT.sIx d.length d.length (some 2) = min 2 d.length from HT.sIx_nat _ _ 2]
    show d.cps.toList.take (min 2 d.length - 0) = _
    rw [Nat.sub_zero]
    have : d.cps.toList.length = d.length := Array.length_toList
    by_cases h : d.length ≤ 2
    · rw [Nat.min_eq_right h, List.take_of_length_le (by omega), List.take_of_length_le (by omega)]
    · rw [Nat.min_eq_left (by omega)]
  have h2 : TL.tl (Txt.mul "z" (s : Int)) = List.replicate s 122 := mul_one_list 122 (s : Int)
  rw [h1, h2]
  show d.cps.toList.take 2 ++ List.replicate s 122 ++ [97 + k] ++ [97] = d.cps.toList.take 2 ++ List.replicate s 122 ++ [97 + k, 97]
  simp
section
variable {P : Program} {w : World} {K : PySem.W.Frag} {mg : Str → Option Value} {base : Heap}
variable {cE cH cU cW : Addr}
theorem ok_l_names_of (T : Tp P K mg cE cH cU cW)
    (c_l_letters_of : Cal P w K mg base 2 "_law_letters_of" P_l_letters_of [] (spLetters))
    (c_l_pick : Cal P w K mg base 1 "_law_pick" P_l_pick [] (spPick))
    (c_l_words : Cal P w K mg base 1 "_law_words" P_l_words [] (spWords))
    {f : Addr} {fd : FuncData} {dvs : List V} (F : FunD K "_law_names_of" "_law_names_of" (defArgs s_l_names_of) (defBody s_l_names_of) (defScope s_l_names_of) dvs [] f fd) : FnG P w K mg base 3 f fd P_l_names_of (spNamesOf) := by
  refine fng F sc_l_names_of (by walk_at "ulen") (fun cdv A outer s H vs Q E hr0 hg0 h => ?_)
  have hr : Rm 2 (A.deeper (envOfC "_law_names_of" (defScope s_l_names_of) s.heap.objs.size f cdv)) := ⟨hr0, hg0⟩
  have nd : N_l_names_of.Nodup := sc_l_names_of.nd
  have po : PassesOwn (model P w) (cxOf (L2.CX P w) P w K mg base N_l_names_of "_law_names_of" (defScope s_l_names_of) f cdv A outer s H E).A (cxOf (L2.CX P w) P w K mg base N_l_names_of "_law_names_of" (defScope s_l_names_of) f cdv A outer s H E).env (cxOf (L2.CX P w) P w K mg base N_l_names_of "_law_names_of" (defScope s_l_names_of) f cdv A outer s H E).xe := passes_of rfl
  obtain ⟨b, m, rfl, hb, m0, m1, k⟩ := h
  refine ⟨_, (pss_cons (ps_set (i := 2) nd rfl (Or.inl rfl) (pe_c0 c_l_words (hr.mono (by decide)) (E := En) paN))
    (pss_cons (ps_set (i := 3) nd rfl (Or.inl rfl) pe_str)
    (pss_cons (ps_for po rfl (pi_range1 (by rfl) T.range (pa_cons (pv 1) pa_nil)) (pg_name (i := 4) nd rfl (Or.inl rfl))
    (pss_cons (ps_set (i := 5) nd rfl (Or.inl rfl) (pe_c (E := En) c_l_letters_of (hr.mono (by decide)) paN (pa_cons (pv 0) (pa_cons (pe_op op_uAdd pe_int (pe_c (E := En) c_l_pick (hr.mono (by decide)) paN (pa_cons (pv 0) (pa_cons pe_int pa_nil)))) pa_nil))))
    (pss_cons (ps_set (i := 6) nd rfl (Or.inl rfl) (pv 5))
    (pss_cons (ps_for po rfl (pi_range1 (by rfl) T.range (pa_cons pe_int pa_nil)) (pg_name (i := 7) nd rfl (Or.inl rfl))
    (pss_cons (ps_if (pt_cmpR op_notIn_seq (pv 6) (pv 2) rfl) (pss_one ps_break) pss_nil)
    (pss_one (ps_set (i := 6) nd rfl (Or.inl rfl) (pe_op op_uAdd (pe_op op_uAdd (pe_op op_uAdd (pe_slice sl_u (pv 5) po_none (po_some pe_int)) (pe_op op_uMul pe_str (pe_op op_uAdd (pv 7) pe_int))) (pe_ix ix_seq (pv 3) (pe_op op_mod (pe_callTy call_uInt (by rfl) T.int b_int (pa_cons (pv 4) pa_nil)) pe_int) (fun _ _ => rfl))) (pe_ix ix_seq (pv 3) (pe_op op_mod (pe_callTy call_uInt (by rfl) T.int b_int (pa_cons (pe_op op_uDiv (pv 4) pe_int) pa_nil)) pe_int) (fun _ _ => rfl)))))))
    (pss_one (ps_expr (pe_bm PySem.F.plainAttrs_list PySem.F.slot_list_append PySem.F.type_list_append mt_append (pv 2) (pa_cons (pv 6) pa_nil))))))))
    (pss_one (ps_ret (pe_slice sl_u (pv 2) (po_some (pe_callB call_uLen (by rfl) T.len b_len (pa_cons (pe_c0 c_l_words (hr.mono (by decide)) (E := En) paN) pa_nil))) po_none)))))), ?_⟩
  walk_at "uk"
  walk_at "ux"
  refine ⟨rfl, fun p H1 hpn e1 hp => ?_⟩
  walk_at "ux"
  refine ⟨m, rfl, by omega, by omega, ?_⟩
  have k1 := e1.kb hb
  refine loopR (fun i σ' H' => Kb b H H' ∧ ∃ (zs : List Str) (o4 o5 o6 o7 : Option V), zs.length = i ∧ Gen zs ∧ H' p = some (.lst ((wordsV ++ zs).map V.str)) ∧
    σ' = ((((((L2.start N_l_names_of [.ref b, .int m]).set 2 (some (.ref p))).set 3 (some (.str "abcdefghijklmnopqrstuvwxyz"))).set 4 o4).set 5 o5).set 6 o6).set 7 o7) ⟨k1, [], none, none, none, none, rfl, ⟨by simp, (fun z h => by cases h), (fun i z h => by simp at h)⟩, by rw [List.append_nil]; exact hp, rfl⟩ ?_ ?_
  · rintro σ' H' ⟨kh, zs, o4, o5, o6, o7, hl, G, hp', rfl⟩
    walk_at "ux"
    refine ⟨rfl, fun p2 H2 _ e2 hp2 => ?_⟩
    walk_at "ux"
    refine .inl ⟨p, _, rfl, .of (e2 _ _ hp'), fun p3 n3 => ?_⟩
    have ec : cutV ((wordsV ++ zs).map V.str) (some (((wordsV.map V.str).length : Nat) : Int)) none = zs.map V.str := by
      unfold cutV
      rw [HT.sIx_nat, HT.sIx_none, List.length_map, List.length_map, List.length_append, Nat.min_eq_left (by omega), List.map_append, List.drop_left' (by rw [List.length_map]), List.take_of_length_le (by rw [List.length_map]; omega)]
    rw [ec]
    exact k p3 zs _ (by omega) G.names (kh.tr ((e2.tr (exN n3)).kb kh.b1)) upd_same
  · rintro i σ' H' hi ⟨kh, zs, o4, o5, o6, o7, hl, G, hp', rfl⟩
    walk_at "ux"
    refine ⟨b, 6, rfl, kh.b1, by decide, by decide, fun r H2 r0 r1 k2 => ?_⟩
    walk_at "ux"
    refine ⟨b, _, rfl, k2.b1, by omega, by omega, fun d H3 hd hdl k3 => ?_⟩
    have kh3 := (kh.tr k2).tr k3
    have hp3 := (k2.tr k3).at hp' fun _ z => by cases z
    have i26 : i < 26 := by omega
    have dl : d.length ≤ sizeLine := by show _ ≤ 16777216; omega
    walk_at "ux"
    refine ⟨9, rfl, by decide, by decide, ?_⟩
    refine loopR (fun s σ' H' => H3 = H' ∧ s ≤ 4 ∧ ∃ (nm : Str) (o7 : Option V), (s = 0 ∧ nm = d ∨ 1 ≤ s ∧ nm = cand d i s ∧ nm.length ≤ 7) ∧
      σ' = ((((((L2.start N_l_names_of [.ref b, .int m]).set 2 (some (.ref p))).set 3 (some (.str "abcdefghijklmnopqrstuvwxyz"))).set 4 (some (.int (0 + i)))).set 5 (some (.str d))).set 6 (some (.str nm))).set 7 o7) ⟨rfl, by decide, d, o7, .inl ⟨rfl, rfl⟩, rfl⟩ ?_ ?_
    · rintro σ' H' ⟨_, h4, _⟩
      exact absurd h4 (by decide)
    · rintro s σ' _ hs ⟨rfl, h4, nm, o7, hn, rfl⟩
      walk_at "ux"
      refine ⟨p, _, rfl, .inl (.of hp3), rfl, flat_strs _, ?_⟩
      walk_at "ux"
      rw [inV_strs]
      by_cases hm : nm ∈ wordsV ++ zs
      · rw [decide_eq_true hm]
        have nx : (cand d i (s + 1)).length ≤ 7 ∧ s + 1 ≤ 4 := by
          have cl := cand_len d i (s + 1)
          rcases hn with ⟨h0, rfl⟩ | ⟨h1, rfl, h7⟩
          · omega
          · have c6 := cand_short G hl h1 h7 hm
            have cl2 := cand_len d i s
            omega
        walk_at "uy"
        refine s_slS dl ?_
        walk_at "ux"
        have es : (0 + (s : Int) + 1) = (((s + 1 : Nat)) : Int) := by omega
        rw [es]
        refine s_mulS (mulok1 122 (n := ((s + 1 : Nat) : Int)) (by omega) (by omega)) ?_
        have lz : (Txt.mul ("z" : Str) ((s + 1 : Nat) : Int)).length ≤ 10 := mullen1 122 (n := ((s + 1 : Nat) : Int)) 10 (by omega)
        have lc := cutS_length d none (some 2)
        refine s_addS (by show _ ≤ 16777216; omega) ?_
        walk_at "ux"
        have em : (0 + (i : Int)) % 26 = (i : Int) := by rw [Int.zero_add]; exact Int.emod_eq_of_lt (by omega) (by omega)
        rw [em]
        refine s_ixS (by decide +kernel) (lett i i26) ?_
        refine s_addS (by rw [app_len]; show _ + 1 ≤ 16777216; omega) ?_
        walk_at "ux"
        have em2 : (0 + (i : Int)) / 26 % 26 = ((0 : Nat) : Int) := by rw [Int.zero_add, Int.ediv_eq_zero_of_lt (by omega) (by omega)]; rfl
        rw [em2]
        refine s_ixS (by decide +kernel) (lett 0 (by decide)) ?_
        refine s_addS (by rw [app_len, app_len]; show _ + 1 + 1 ≤ 16777216; omega) ?_
        rw [show (97 + 0 : Nat) = 97 from rfl, cand_eq]
        walk_at "ux"
        exact ⟨rfl, nx.2, _, some (.int (0 + s)), .inr ⟨by omega, rfl, nx.1⟩, rfl⟩
      · rw [decide_eq_false hm]
        walk_at "uy"
        refine s_tyL (.of hp3) ?_
        walk_at "ux"
        refine s_app hp3 (by rw [List.length_map, List.length_append]; show _ < 16777216; have : wordsV.length = 46 := rfl; omega) ?_
        have nmk : NmAt zs.length nm := by
          rcases hn with ⟨h0, rfl⟩ | ⟨h1, rfl, h7⟩
          · exact ⟨by omega, by omega, hdl, fun q => by omega⟩
          · exact ⟨by rw [cand_len]; omega, h7, cand_low hdl i26, fun q => by rw [cand_end q, hl]⟩
        exact ⟨kh3.put hpn _, zs ++ [nm], _, _, _, _, by rw [List.length_append, hl]; rfl, G.add hm nmk, by rw [upd_same, ← List.append_assoc, List.map_append (l₂ := [nm])]; rfl, rfl⟩
end
end Lw

set_option Elab.async false
set_option linter.all false
set_option maxRecDepth 100000
set_option maxHeartbeats 4000000
namespace Lw
open PySem PySem.Spec L2 Uv
open PyProof.Rows hiding St
local macro_rules | `(tactic| walk_at "umul") => `(tactic| fail)
local macro_rules | `(tactic| walk_at "us1") => `(tactic| first
  | (with_reducible refine s_seq ?_) | (with_reducible refine s_asg ?_) | (with_reducible refine s_gn ?_) | (with_reducible refine s_ret ?_) | (with_reducible refine s_drop ?_) | (with_reducible refine s_if ?_) | (with_reducible refine s_next ?_)
  | (with_reducible refine s_brk ?_) | (with_reducible refine s_cont ?_)
  | ((with_reducible refine' s_var ?hv ?_); (case hv => exact rfl)) | (with_reducible refine s_c ?_) | (with_reducible refine s_op ?_) | (with_reducible refine s_un ?_) | (with_reducible refine s_cb ?_) | (with_reducible refine s_call ?_)
  | (with_reducible refine s_cons ?_) | (with_reducible refine s_nil ?_) | (with_reducible refine s_test ?_) | (with_reducible refine s_tB ?_) | (with_reducible refine s_not ?_) | (with_reducible refine s_and ?_) | (with_reducible refine s_or ?_)
  | (with_reducible refine s_andV ?_) | (with_reducible refine s_orV ?_) | (with_reducible refine s_notV ?_) | (with_reducible refine s_ifE ?_) | (with_reducible refine s_bl ?_) | (with_reducible refine s_iT ?_) | (with_reducible refine s_iF ?_)
  | (with_reducible refine s_I0 ?_) | (with_reducible refine s_U ?_) | (with_reducible refine s_addI ?_) | (with_reducible refine s_eqI ?_) | (with_reducible refine s_eqS ?_) | (with_reducible refine s_eqB ?_) | (with_reducible refine s_neI ?_) | (with_reducible refine s_neS ?_) | (with_reducible refine s_neB ?_)
  | (with_reducible refine s_tupE ?_) | (with_reducible refine s_lstE ?_))
local macro_rules | `(tactic| walk_at "us") => `(tactic| repeat walk_at "us1")
local macro_rules | `(tactic| walk_at "ulen") => `(tactic| (intro vs H Q E h; repeat' (first | (obtain ⟨e, _⟩ := h; subst e; rfl) | (subst h; rfl) | (refine Or.elim h (fun h => ?_) (fun h => ?_)) | (obtain ⟨_, h⟩ := h))))
local macro_rules | `(tactic| walk_at "uk") => `(tactic| (try dsimp only [cxOf, Cx.suite, Cx.tr]))
local macro_rules | `(tactic| walk_at "us2") => `(tactic| first
  | walk_at "us1" | (with_reducible refine s_dput ?_) | ((with_reducible refine' s_mod ?hc ?_); (case hc => first | decide | assumption | omega))
  | (with_reducible refine s_for ?_) | (with_reducible refine s_lc ?_) | (with_reducible refine s_bm ?_) | (with_reducible refine s_ilt ?_) | (with_reducible refine s_izx ?_) | (with_reducible refine s_ienum ?_) | (with_reducible refine s_din ?_) | (with_reducible refine s_dnotin ?_) | (with_reducible refine s_itl ?_) | (with_reducible refine s_itt ?_) | (with_reducible refine s_its ?_) | (with_reducible refine s_itr ?_) | (with_reducible refine s_itr2 ?_) | (with_reducible refine s_disp ?_) | (with_reducible refine s_prn ?_) | (with_reducible refine s_prc ?_) | (with_reducible refine s_m1 ?_) | (with_reducible refine s_isS ?_) | (with_reducible refine s_um1 ?_) | (with_reducible refine s_isB ?_) | (with_reducible refine s_isn ?_) | (with_reducible refine s_notn ?_) | (with_reducible refine s_jd ?_) | (with_reducible refine s_jn ?_) | (with_reducible refine s_jc ?_) | (with_reducible refine s_fmt ?_) | (with_reducible refine s_gc ?_) | (with_reducible refine s_gnil ?_) | (with_reducible refine s_yes ?_) | (with_reducible refine s_raise ?_)
  | ((with_reducible refine' s_pow ?hc ?_); (case hc => exact ⟨by decide, by decide, by decide⟩)) | (with_reducible refine s_int ?_) | (with_reducible refine s_intB ?_) | (with_reducible refine s_strS ?_) | (with_reducible refine s_abs ?_) | (with_reducible refine s_max ?_) | (with_reducible refine s_min ?_) | (with_reducible refine s_gcd ?_)
  | (with_reducible refine s_chain ?_) | (with_reducible refine s_sl ?_) | (with_reducible refine s_noP ?_) | (with_reducible refine s_part ?_) | (with_reducible refine s_exI ?_) 
  | ((with_reducible refine' s_mulI ?hc ?_); (case hc => first | exact Or.inl (Or.inr ⟨by decide, by decide⟩) | exact Or.inl (Or.inl ⟨by decide, by decide⟩) | exact Or.inl (Or.inl ⟨by omega, by omega⟩) | exact Or.inl (Or.inr ⟨by omega, by omega⟩) | walk_at "umul"))
  | ((with_reducible refine' s_ixT ?hc ?hd ?_); (case hc => assumption); (case hd => rfl))
  | ((with_reducible refine' s_lenL ?hc ?_); (case hc => first | assumption | exact SqL.of (by assumption))) | ((with_reducible refine' s_lenT ?hc ?_); (case hc => first | assumption | exact SqT.of (by assumption)))
  | ((with_reducible refine' s_divP ?hc ?hd ?_); (case hc => first | decide | assumption | omega); (case hd => first | decide +kernel | assumption)))
local macro_rules | `(tactic| walk_at "us") => `(tactic| repeat walk_at "us2")
local macro_rules | `(tactic| walk_at "uj") => `(tactic| ((walk_at "us"); with_reducible refine s_J ?_))
local macro_rules | `(tactic| walk_at "ua") => `(tactic| ((walk_at "us"); repeat ((first | (refine s_iF ?_) | (refine s_iT ?_)); (walk_at "us"))))
local macro_rules | `(tactic| walk_at "ub") => `(tactic| walk_at "ua")
local macro_rules | `(tactic| walk_at "ux1") => `(tactic| first
  | walk_at "us2" | ((with_reducible refine' s_ixL ?hc ?hd ?_); (case hc => first | assumption | exact SqL.of (by assumption)); (case hd => rfl)) | ((with_reducible refine' s_ixT ?hc ?hd ?_); (case hc => exact SqT.of (by assumption)); (case hd => rfl))
  | ((with_reducible refine' s_intS ?hc ?hd ?_); (case hc => assumption); (case hd => assumption)) | ((with_reducible refine' s_lenS ?hc ?_); (case hc => assumption)))
local macro_rules | `(tactic| walk_at "ux") => `(tactic| repeat walk_at "ux1")
local macro_rules | `(tactic| walk_at "uy") => `(tactic| ((walk_at "ux"); repeat ((first | (refine s_iF ?_) | (refine s_iT ?_)); (walk_at "ux"))))
local macro_rules | `(tactic| walk_at "uz0") => `(tactic| first
  | (with_reducible refine s_seq ?_) | (with_reducible refine s_asg ?_) | (with_reducible refine s_gn ?_) | (with_reducible refine s_ret ?_) | (with_reducible refine s_drop ?_) | (with_reducible refine s_if ?_) | (with_reducible refine s_next ?_)
  | (with_reducible refine s_brk ?_) | (with_reducible refine s_cont ?_)
  | ((with_reducible refine' s_var ?hv ?_); (case hv => exact rfl)) | (with_reducible refine s_c ?_) | (with_reducible refine s_op ?_) | (with_reducible refine s_un ?_) | (with_reducible refine s_cb ?_) | (with_reducible refine s_call ?_)
  | (with_reducible refine s_cons ?_) | (with_reducible refine s_nil ?_) | (with_reducible refine s_test ?_) | (with_reducible refine s_tB ?_) | (with_reducible refine s_not ?_) | (with_reducible refine s_and ?_) | (with_reducible refine s_or ?_)
  | (with_reducible refine s_andV ?_) | (with_reducible refine s_orV ?_) | (with_reducible refine s_notV ?_) | (with_reducible refine s_ifE ?_) | (with_reducible refine s_bl ?_) | (with_reducible refine s_iT ?_) | (with_reducible refine s_iF ?_)
  | (with_reducible refine s_I0 ?_) | (with_reducible refine s_U ?_) | (with_reducible refine s_addI ?_) | (with_reducible refine s_eqI ?_) | (with_reducible refine s_eqS ?_) | (with_reducible refine s_eqB ?_) | (with_reducible refine s_neI ?_) | (with_reducible refine s_neS ?_) | (with_reducible refine s_neB ?_))
local macro_rules | `(tactic| walk_at "uz2") => `(tactic| first
  | walk_at "uz0" | (with_reducible refine s_dput ?_) | ((with_reducible refine' s_mod ?hc ?_); (case hc => first | decide | assumption | omega))
  | (with_reducible refine s_for ?_) | (with_reducible refine s_lc ?_) | (with_reducible refine s_bm ?_) | (with_reducible refine s_ilt ?_) | (with_reducible refine s_izx ?_) | (with_reducible refine s_ienum ?_) | (with_reducible refine s_din ?_) | (with_reducible refine s_dnotin ?_) | (with_reducible refine s_itl ?_) | (with_reducible refine s_itt ?_) | (with_reducible refine s_its ?_) | (with_reducible refine s_itr ?_) | (with_reducible refine s_itr2 ?_) | (with_reducible refine s_disp ?_) | (with_reducible refine s_prn ?_) | (with_reducible refine s_prc ?_) | (with_reducible refine s_m1 ?_) | (with_reducible refine s_isS ?_) | (with_reducible refine s_um1 ?_) | (with_reducible refine s_isB ?_) | (with_reducible refine s_isn ?_) | (with_reducible refine s_notn ?_) | (with_reducible refine s_jd ?_) | (with_reducible refine s_jn ?_) | (with_reducible refine s_jc ?_) | (with_reducible refine s_fmt ?_) | (with_reducible refine s_gc ?_) | (with_reducible refine s_gnil ?_) | (with_reducible refine s_yes ?_) | (with_reducible refine s_raise ?_)
  | ((with_reducible refine' s_pow ?hc ?_); (case hc => exact ⟨by decide, by decide, by decide⟩)) | (with_reducible refine s_int ?_) | (with_reducible refine s_intB ?_) | (with_reducible refine s_strS ?_) | (with_reducible refine s_abs ?_) | (with_reducible refine s_max ?_) | (with_reducible refine s_min ?_) | (with_reducible refine s_gcd ?_)
  | (with_reducible refine s_chain ?_) | (with_reducible refine s_sl ?_) | (with_reducible refine s_noP ?_) | (with_reducible refine s_part ?_) | (with_reducible refine s_exI ?_) 
  | ((with_reducible refine' s_mulI ?hc ?_); (case hc => first | exact Or.inl (Or.inr ⟨by decide, by decide⟩) | exact Or.inl (Or.inl ⟨by decide, by decide⟩) | exact Or.inl (Or.inl ⟨by omega, by omega⟩) | exact Or.inl (Or.inr ⟨by omega, by omega⟩) | walk_at "umul"))
  | ((with_reducible refine' s_ixT ?hc ?hd ?_); (case hc => assumption); (case hd => rfl))
  | ((with_reducible refine' s_lenL ?hc ?_); (case hc => first | assumption | exact SqL.of (by assumption))) | ((with_reducible refine' s_lenT ?hc ?_); (case hc => first | assumption | exact SqT.of (by assumption)))
  | ((with_reducible refine' s_divP ?hc ?hd ?_); (case hc => first | decide | assumption | omega); (case hd => first | decide +kernel | assumption)))
local macro_rules | `(tactic| walk_at "uz1") => `(tactic| first
  | walk_at "uz2" | ((with_reducible refine' s_ixL ?hc ?hd ?_); (case hc => first | assumption | exact SqL.of (by assumption)); (case hd => rfl)) | ((with_reducible refine' s_ixT ?hc ?hd ?_); (case hc => exact SqT.of (by assumption)); (case hd => rfl))
  | ((with_reducible refine' s_intS ?hc ?hd ?_); (case hc => assumption); (case hd => assumption)) | ((with_reducible refine' s_lenS ?hc ?_); (case hc => assumption)))
local macro_rules | `(tactic| walk_at "uz") => `(tactic| ((repeat walk_at "uz1"); repeat ((first | (refine s_iF ?_) | (refine s_iT ?_)); (repeat walk_at "uz1"))))
section
variable {P : Program} {w : World} {K : PySem.W.Frag} {mg : Str → Option Value} {base : Heap}
variable {cE cH cU cW : Addr}
theorem ok_is_dimension (T : Tp P K mg cE cH cU cW)
    (c_is_integer_3 : Cal P w K mg base 1 "is_integer" P_is_integer [] (spIsInteger K))
    {f : Addr} {fd : FuncData} {dvs : List V} (F : FunD K "is_dimension" "is_dimension" (defArgs s_is_dimension) (defBody s_is_dimension) (defScope s_is_dimension) dvs [] f fd) : FnG P w K mg base 2 f fd P_is_dimension (spIsDim K) := by
  refine fng F sc_is_dimension (by walk_at "ulen") (fun cdv A outer s H vs Q E hr0 hg0 h => ?_)
  have hr : Rm 1 (A.deeper (envOfC "is_dimension" (defScope s_is_dimension) s.heap.objs.size f cdv)) := ⟨hr0, hg0⟩
  have nd : N_is_dimension.Nodup := sc_is_dimension.nd
  obtain ⟨v, d, m, rfl, hd, hl, k⟩ := h
  refine ⟨_, (pss_cons (ps_if (PW.pt (pw_or (pt_not (pt_val (pe_callB call_isi (by rfl) T.isinstance b_isinstance (pa_cons (pv 0) (pa_cons (pe_bltn (v := .ty "tuple") (by rfl) T.tuple b_tuple rfl) pa_nil))))) (pw_or1 (pt_cmpR (op_uNe hr.r.units) (pe_callB call_uLen (by rfl) T.len b_len (pa_cons (pv 0) pa_nil)) (pv 1) (nomark _))))) (pss_one (ps_ret pe_bl)) pss_nil)
    (pss_one (ps_ret (pe_callB (cr_all rfl) (by rfl) T.all b_all (pa_cons (pe_lc (own := [("power", 2)]) (g := gName 2) (by rfl) nd (Zx.pi_lt (pv 0)) (blkOk_by (own := [("power", 2)]) (N := N_is_dimension) (sc := defScope s_is_dimension) (by decide +kernel)) (fun s_ H_ C_ cl_ fp_ => pg_name (i := 2) nd rfl (Or.inl rfl)) (fun s_ H_ C_ cl_ fp_ => pts_nil) (fun s_ H_ C_ cl_ fp_ => (pe_c (E := En) c_is_integer_3 (hr.mono (by decide)) paN (pa_cons (pv 2) (pa_cons (pe_un un_neg (pe_gI T.g_HIGH)) (pa_cons (pe_gI T.g_HIGH) pa_nil)))))) pa_nil))))), ?_⟩
  walk_at "uk"
  walk_at "us"
  refine s_isTup hd ?_
  cases hd with
  | @tup a xs ds hs ha =>
    have ll := dpa_length ha
    walk_at "uy"
    refine s_iteN (fun hn => ?_) (fun hn => ?_)
    · walk_at "uy"
      have e : isDimD (.tuple ds) m = false := by simp only [isDimD]; rw [decide_eq_false (by omega)]; rfl
      have := k H (exR H)
      rw [e] at this
      exact this
    · walk_at "uy"
      refine lcA (.inr hs) (fun D i acc H' => Ex H H' ∧ H' D = some (.lst acc) ∧ acc = ((ds.take i).map fun d => isIntegerD d (some (-9)) (some 9)).map V.bl) (fun D n => ⟨exN n, upd_same, rfl⟩) (fun D i acc H' _ h => h.1.kx) ?_ ?_
      · rintro D acc H' nD ⟨e, hD, rfl⟩
        walk_at "uy"
        refine ⟨D, _, rfl, .of hD, ?_⟩
        rw [ll, List.take_length]
        have : isDimD (.tuple ds) m = (ds.map fun d => isIntegerD d (some (-9)) (some 9)).all id := by
          simp only [isDimD]
          rw [decide_eq_true (show (ds.length : Int) = m by omega), Bool.true_and, List.all_map]
          rfl
        rw [← this]
        exact k H' e
      · rintro D i x acc H' nD hx ⟨e, hD, rfl⟩
        obtain ⟨d, hd, hm, hdp⟩ := dpa_get ha hx
        walk_at "uy"
        refine ⟨rfl, ?_⟩
        walk_at "uy"
        refine ⟨x, d, .int (-9), some (-9), .int 9, some 9, rfl, dp_ex e d x hdp, .inr ⟨_, rfl, rfl⟩, .inr ⟨_, rfl, rfl⟩, ?_⟩
        refine ⟨_, hD, by rw [List.length_map, List.length_map, List.length_take]; show _ < 16777216; have : ds.length ≤ 1000 := hl; omega, _, ex_put nD e, upd_same, ?_⟩
        have : i < ds.length := (List.getElem?_eq_some_iff.mp hd).1
        rw [List.take_add_one, hd, List.map_append, List.map_append]
        rfl
  | _ =>
    walk_at "uy"
    exact k H (exR H)
end
end Lw

set_option Elab.async false
set_option linter.all false
set_option maxRecDepth 100000
set_option maxHeartbeats 4000000
namespace Lw
open PySem PySem.Spec L2 Uv
open PyProof.Rows hiding St
local macro_rules | `(tactic| walk_at "umul") => `(tactic| fail)
local macro_rules | `(tactic| walk_at "us1") => `(tactic| first
  | (with_reducible refine s_seq ?_) | (with_reducible refine s_asg ?_) | (with_reducible refine s_gn ?_) | (with_reducible refine s_ret ?_) | (with_reducible refine s_drop ?_) | (with_reducible refine s_if ?_) | (with_reducible refine s_next ?_)
  | (with_reducible refine s_brk ?_) | (with_reducible refine s_cont ?_)
  | ((with_reducible refine' s_var ?hv ?_); (case hv => exact rfl)) | (with_reducible refine s_c ?_) | (with_reducible refine s_op ?_) | (with_reducible refine s_un ?_) | (with_reducible refine s_cb ?_) | (with_reducible refine s_call ?_)
  | (with_reducible refine s_cons ?_) | (with_reducible refine s_nil ?_) | (with_reducible refine s_test ?_) | (with_reducible refine s_tB ?_) | (with_reducible refine s_not ?_) | (with_reducible refine s_and ?_) | (with_reducible refine s_or ?_)
  | (with_reducible refine s_andV ?_) | (with_reducible refine s_orV ?_) | (with_reducible refine s_notV ?_) | (with_reducible refine s_ifE ?_) | (with_reducible refine s_bl ?_) | (with_reducible refine s_iT ?_) | (with_reducible refine s_iF ?_)
  | (with_reducible refine s_I0 ?_) | (with_reducible refine s_U ?_) | (with_reducible refine s_addI ?_) | (with_reducible refine s_eqI ?_) | (with_reducible refine s_eqS ?_) | (with_reducible refine s_eqB ?_) | (with_reducible refine s_neI ?_) | (with_reducible refine s_neS ?_) | (with_reducible refine s_neB ?_)
  | (with_reducible refine s_tupE ?_) | (with_reducible refine s_lstE ?_))
local macro_rules | `(tactic| walk_at "us") => `(tactic| repeat walk_at "us1")
local macro_rules | `(tactic| walk_at "ulen") => `(tactic| (intro vs H Q E h; repeat' (first | (obtain ⟨e, _⟩ := h; subst e; rfl) | (subst h; rfl) | (refine Or.elim h (fun h => ?_) (fun h => ?_)) | (obtain ⟨_, h⟩ := h))))
local macro_rules | `(tactic| walk_at "uk") => `(tactic| (try dsimp only [cxOf, Cx.suite, Cx.tr]))
local macro_rules | `(tactic| walk_at "us2") => `(tactic| first
  | walk_at "us1" | (with_reducible refine s_dput ?_) | ((with_reducible refine' s_mod ?hc ?_); (case hc => first | decide | assumption | omega))
  | (with_reducible refine s_for ?_) | (with_reducible refine s_lc ?_) | (with_reducible refine s_bm ?_) | (with_reducible refine s_ilt ?_) | (with_reducible refine s_izx ?_) | (with_reducible refine s_ienum ?_) | (with_reducible refine s_din ?_) | (with_reducible refine s_dnotin ?_) | (with_reducible refine s_itl ?_) | (with_reducible refine s_itt ?_) | (with_reducible refine s_its ?_) | (with_reducible refine s_itr ?_) | (with_reducible refine s_itr2 ?_) | (with_reducible refine s_disp ?_) | (with_reducible refine s_prn ?_) | (with_reducible refine s_prc ?_) | (with_reducible refine s_m1 ?_) | (with_reducible refine s_isS ?_) | (with_reducible refine s_um1 ?_) | (with_reducible refine s_isB ?_) | (with_reducible refine s_isn ?_) | (with_reducible refine s_notn ?_) | (with_reducible refine s_jd ?_) | (with_reducible refine s_jn ?_) | (with_reducible refine s_jc ?_) | (with_reducible refine s_fmt ?_) | (with_reducible refine s_gc ?_) | (with_reducible refine s_gnil ?_) | (with_reducible refine s_yes ?_) | (with_reducible refine s_raise ?_)
  | ((with_reducible refine' s_pow ?hc ?_); (case hc => exact ⟨by decide, by decide, by decide⟩)) | (with_reducible refine s_int ?_) | (with_reducible refine s_intB ?_) | (with_reducible refine s_strS ?_) | (with_reducible refine s_abs ?_) | (with_reducible refine s_max ?_) | (with_reducible refine s_min ?_) | (with_reducible refine s_gcd ?_)
  | (with_reducible refine s_chain ?_) | (with_reducible refine s_sl ?_) | (with_reducible refine s_noP ?_) | (with_reducible refine s_part ?_) | (with_reducible refine s_exI ?_) 
  | ((with_reducible refine' s_mulI ?hc ?_); (case hc => first | exact Or.inl (Or.inr ⟨by decide, by decide⟩) | exact Or.inl (Or.inl ⟨by decide, by decide⟩) | exact Or.inl (Or.inl ⟨by omega, by omega⟩) | exact Or.inl (Or.inr ⟨by omega, by omega⟩) | walk_at "umul"))
  | ((with_reducible refine' s_ixT ?hc ?hd ?_); (case hc => assumption); (case hd => rfl))
  | ((with_reducible refine' s_lenL ?hc ?_); (case hc => first | assumption | exact SqL.of (by assumption))) | ((with_reducible refine' s_lenT ?hc ?_); (case hc => first | assumption | exact SqT.of (by assumption)))
  | ((with_reducible refine' s_divP ?hc ?hd ?_); (case hc => first | decide | assumption | omega); (case hd => first | decide +kernel | assumption)))
local macro_rules | `(tactic| walk_at "us") => `(tactic| repeat walk_at "us2")
local macro_rules | `(tactic| walk_at "uj") => `(tactic| ((walk_at "us"); with_reducible refine s_J ?_))
local macro_rules | `(tactic| walk_at "ua") => `(tactic| ((walk_at "us"); repeat ((first | (refine s_iF ?_) | (refine s_iT ?_)); (walk_at "us"))))
local macro_rules | `(tactic| walk_at "ub") => `(tactic| walk_at "ua")
local macro_rules | `(tactic| walk_at "ux1") => `(tactic| first
  | walk_at "us2" | ((with_reducible refine' s_ixL ?hc ?hd ?_); (case hc => first | assumption | exact SqL.of (by assumption)); (case hd => rfl)) | ((with_reducible refine' s_ixT ?hc ?hd ?_); (case hc => exact SqT.of (by assumption)); (case hd => rfl))
  | ((with_reducible refine' s_intS ?hc ?hd ?_); (case hc => assumption); (case hd => assumption)) | ((with_reducible refine' s_lenS ?hc ?_); (case hc => assumption)))
local macro_rules | `(tactic| walk_at "ux") => `(tactic| repeat walk_at "ux1")
local macro_rules | `(tactic| walk_at "uy") => `(tactic| ((walk_at "ux"); repeat ((first | (refine s_iF ?_) | (refine s_iT ?_)); (walk_at "ux"))))
local macro_rules | `(tactic| walk_at "uz0") => `(tactic| first
  | (with_reducible refine s_seq ?_) | (with_reducible refine s_asg ?_) | (with_reducible refine s_gn ?_) | (with_reducible refine s_ret ?_) | (with_reducible refine s_drop ?_) | (with_reducible refine s_if ?_) | (with_reducible refine s_next ?_)
  | (with_reducible refine s_brk ?_) | (with_reducible refine s_cont ?_)
  | ((with_reducible refine' s_var ?hv ?_); (case hv => exact rfl)) | (with_reducible refine s_c ?_) | (with_reducible refine s_op ?_) | (with_reducible refine s_un ?_) | (with_reducible refine s_cb ?_) | (with_reducible refine s_call ?_)
  | (with_reducible refine s_cons ?_) | (with_reducible refine s_nil ?_) | (with_reducible refine s_test ?_) | (with_reducible refine s_tB ?_) | (with_reducible refine s_not ?_) | (with_reducible refine s_and ?_) | (with_reducible refine s_or ?_)
  | (with_reducible refine s_andV ?_) | (with_reducible refine s_orV ?_) | (with_reducible refine s_notV ?_) | (with_reducible refine s_ifE ?_) | (with_reducible refine s_bl ?_) | (with_reducible refine s_iT ?_) | (with_reducible refine s_iF ?_)
  | (with_reducible refine s_I0 ?_) | (with_reducible refine s_U ?_) | (with_reducible refine s_addI ?_) | (with_reducible refine s_eqI ?_) | (with_reducible refine s_eqS ?_) | (with_reducible refine s_eqB ?_) | (with_reducible refine s_neI ?_) | (with_reducible refine s_neS ?_) | (with_reducible refine s_neB ?_))
local macro_rules | `(tactic| walk_at "uz2") => `(tactic| first
  | walk_at "uz0" | (with_reducible refine s_dput ?_) | ((with_reducible refine' s_mod ?hc ?_); (case hc => first | decide | assumption | omega))
  | (with_reducible refine s_for ?_) | (with_reducible refine s_lc ?_) | (with_reducible refine s_bm ?_) | (with_reducible refine s_ilt ?_) | (with_reducible refine s_izx ?_) | (with_reducible refine s_ienum ?_) | (with_reducible refine s_din ?_) | (with_reducible refine s_dnotin ?_) | (with_reducible refine s_itl ?_) | (with_reducible refine s_itt ?_) | (with_reducible refine s_its ?_) | (with_reducible refine s_itr ?_) | (with_reducible refine s_itr2 ?_) | (with_reducible refine s_disp ?_) | (with_reducible refine s_prn ?_) | (with_reducible refine s_prc ?_) | (with_reducible refine s_m1 ?_) | (with_reducible refine s_isS ?_) | (with_reducible refine s_um1 ?_) | (with_reducible refine s_isB ?_) | (with_reducible refine s_isn ?_) | (with_reducible refine s_notn ?_) | (with_reducible refine s_jd ?_) | (with_reducible refine s_jn ?_) | (with_reducible refine s_jc ?_) | (with_reducible refine s_fmt ?_) | (with_reducible refine s_gc ?_) | (with_reducible refine s_gnil ?_) | (with_reducible refine s_yes ?_) | (with_reducible refine s_raise ?_)
  | ((with_reducible refine' s_pow ?hc ?_); (case hc => exact ⟨by decide, by decide, by decide⟩)) | (with_reducible refine s_int ?_) | (with_reducible refine s_intB ?_) | (with_reducible refine s_strS ?_) | (with_reducible refine s_abs ?_) | (with_reducible refine s_max ?_) | (with_reducible refine s_min ?_) | (with_reducible refine s_gcd ?_)
  | (with_reducible refine s_chain ?_) | (with_reducible refine s_sl ?_) | (with_reducible refine s_noP ?_) | (with_reducible refine s_part ?_) | (with_reducible refine s_exI ?_) 
  | ((with_reducible refine' s_mulI ?hc ?_); (case hc => first | exact Or.inl (Or.inr ⟨by decide, by decide⟩) | exact Or.inl (Or.inl ⟨by decide, by decide⟩) | exact Or.inl (Or.inl ⟨by omega, by omega⟩) | exact Or.inl (Or.inr ⟨by omega, by omega⟩) | walk_at "umul"))
  | ((with_reducible refine' s_ixT ?hc ?hd ?_); (case hc => assumption); (case hd => rfl))
  | ((with_reducible refine' s_lenL ?hc ?_); (case hc => first | assumption | exact SqL.of (by assumption))) | ((with_reducible refine' s_lenT ?hc ?_); (case hc => first | assumption | exact SqT.of (by assumption)))
  | ((with_reducible refine' s_divP ?hc ?hd ?_); (case hc => first | decide | assumption | omega); (case hd => first | decide +kernel | assumption)))
local macro_rules | `(tactic| walk_at "uz1") => `(tactic| first
  | walk_at "uz2" | ((with_reducible refine' s_ixL ?hc ?hd ?_); (case hc => first | assumption | exact SqL.of (by assumption)); (case hd => rfl)) | ((with_reducible refine' s_ixT ?hc ?hd ?_); (case hc => exact SqT.of (by assumption)); (case hd => rfl))
  | ((with_reducible refine' s_intS ?hc ?hd ?_); (case hc => assumption); (case hd => assumption)) | ((with_reducible refine' s_lenS ?hc ?_); (case hc => assumption)))
local macro_rules | `(tactic| walk_at "uz") => `(tactic| ((repeat walk_at "uz1"); repeat ((first | (refine s_iF ?_) | (refine s_iT ?_)); (repeat walk_at "uz1"))))
section
variable {P : Program} {w : World} {K : PySem.W.Frag} {mg : Str → Option Value} {base : Heap}
variable {cE cH cU cW : Addr}
theorem ok_multiplied (T : Tp P K mg cE cH cU cW)
    (c_is_dimension : Cal P w K mg base 2 "is_dimension" P_is_dimension [] (spIsDim K))
    {f : Addr} {fd : FuncData} {dvs : List V} (F : FunD K "multiplied" "multiplied" (defArgs s_multiplied) (defBody s_multiplied) (defScope s_multiplied) dvs [] f fd) : FnG P w K mg base 3 f fd P_multiplied (spMul K cH (· + ·)) := by
  refine fng F sc_multiplied (by walk_at "ulen") (fun cdv A outer s H vs Q E hr0 hg0 h => ?_)
  have hr : Rm 2 (A.deeper (envOfC "multiplied" (defScope s_multiplied) s.heap.objs.size f cdv)) := ⟨hr0, hg0⟩
  have nd : N_multiplied.Nodup := sc_multiplied.nd
  have tk : Takes (cxOf (L2.CX P w) P w K mg base N_multiplied "multiplied" (defScope s_multiplied) f cdv A outer s H E) (fun cls d _ H => E cls d H) := takes_of rfl rfl rfl rfl
  obtain ⟨a, b, xs, ys, rfl, ⟨p, rfl, hp⟩, ⟨q, rfl, hq⟩, hl, h100, k, kx⟩ := h
  have zl : (List.zipWith (fun x y : Int => x + y) xs ys).length = xs.length := by rw [List.length_zipWith]; omega
  refine ⟨_, (pss_cons (ps_set (i := 2) nd rfl (Or.inl rfl) (pe_callTy call_uTup (by rfl) T.tuple b_tuple (pa_cons (pe_lc (own := [("one", 3), ("two", 4)]) (g := (gTup K 2 (gCons (gName 3) (gCons (gName 4) gNil)))) (by rfl) nd (Zx.pi_zx (by rfl) T.zip (pa_cons (pv 0) (pa_cons (pv 1) pa_nil))) (blkOk_by (own := [("one", 3), ("two", 4)]) (N := N_multiplied) (sc := defScope s_multiplied) (by decide +kernel)) (fun s_ H_ C_ cl_ fp_ => (by exact (pg_tup rfl (pgs_cons (pg_name (i := 3) nd rfl (Or.inl rfl)) (pgs_cons (pg_name (i := 4) nd rfl (Or.inl rfl)) pgs_nil))))) (fun s_ H_ C_ cl_ fp_ => pts_nil) (fun s_ H_ C_ cl_ fp_ => (pe_op (op_uAddK (K := K) rfl) (pv 3) (pv 4)))) pa_nil)))
    (pss_cons (ps_if (pt_not (pt_val (pe_c (E := En) c_is_dimension (hr.mono (by decide)) paN (pa_cons (pv 2) (pa_cons (pe_callB call_uLen (by rfl) T.len b_len (pa_cons (pv 2) pa_nil)) pa_nil))))) (pss_one (ps_raiseX rfl T.x_TooHigh hr.r tk (by decide) (by decide) (pa_cons (pv 2) pa_nil))) pss_nil)
    (pss_one (ps_ret (pv 2))))), ?_⟩
  walk_at "uk"
  walk_at "us"
  refine lcZ (j := false) (k := false) xs.length (by rw [List.length_map, List.length_map]; omega) hp hq (fun D i acc H' => Ex H H' ∧ H' D = some (.lst acc) ∧ acc = ((List.zipWith (fun x y : Int => x + y) xs ys).take i).map V.int) (fun D n => ⟨exN n, upd_same, rfl⟩) (fun D i acc H' _ h => h.1.kx) ?_ ?_
  · rintro D acc H' nD ⟨e, hD, rfl⟩
    walk_at "uy"
    refine s_tupOfL (.of hD) fun r H2 e2 hr => ?_
    rw [← zl, List.take_length] at hr
    walk_at "uy"
    refine ⟨.ref r, _, _, rfl, tupI_dp hr, (by show (List.map PyData.int _).length ≤ 1000; rw [List.length_map, zl]; omega), fun H3 e3 => ?_⟩
    rw [List.length_map, isDim_ints]
    have e4 := (e.tr e2).tr e3
    refine s_if1 (x := inR (List.zipWith (fun x y : Int => x + y) xs ys)) (fun z => ?_) (fun z => ?_)
    · rw [z]
      walk_at "uy"
      exact k z _ H3 e4 ⟨r, rfl, Ex.st hr e3⟩
    · rw [z]
      walk_at "uy"
      exact ⟨rfl, fun d nd => kx z _ d _ (e4.tr (exN nd)) ⟨r, rfl, Ex.st (Ex.st hr e3) (exN nd)⟩ upd_same⟩
  · rintro D i x y T acc H' nD hx hy ⟨e, hD, rfl⟩ nT
    obtain ⟨a, b, rfl, rfl, hz⟩ := zw_get (g := fun x y => x + y) hx hy
    refine s_gt (.of upd_same) rfl ?_
    walk_at "uy"
    refine ⟨rfl, ?_⟩
    walk_at "uy"
    have nDT : D ≠ T := fun z => by rw [z, nT] at hD; cases hD
    refine ⟨_, by rw [upd_ne nDT]; exact hD, by rw [List.length_map, List.length_take]; show _ < 16777216; omega, _, ex_put nD (e.tr (exN nT)), upd_same, ?_⟩
    rw [List.take_add_one, hz, List.map_append]
    rfl
end
end Lw

set_option Elab.async false
set_option linter.all false
set_option maxRecDepth 100000
set_option maxHeartbeats 4000000
namespace Lw
open PySem PySem.Spec L2 Uv
open PyProof.Rows hiding St
local macro_rules | `(tactic| walk_at "umul") => `(tactic| fail)
local macro_rules | `(tactic| walk_at "us1") => `(tactic| first
  | (with_reducible refine s_seq ?_) | (with_reducible refine s_asg ?_) | (with_reducible refine s_gn ?_) | (with_reducible refine s_ret ?_) | (with_reducible refine s_drop ?_) | (with_reducible refine s_if ?_) | (with_reducible refine s_next ?_)
  | (with_reducible refine s_brk ?_) | (with_reducible refine s_cont ?_)
  | ((with_reducible refine' s_var ?hv ?_); (case hv => exact rfl)) | (with_reducible refine s_c ?_) | (with_reducible refine s_op ?_) | (with_reducible refine s_un ?_) | (with_reducible refine s_cb ?_) | (with_reducible refine s_call ?_)
  | (with_reducible refine s_cons ?_) | (with_reducible refine s_nil ?_) | (with_reducible refine s_test ?_) | (with_reducible refine s_tB ?_) | (with_reducible refine s_not ?_) | (with_reducible refine s_and ?_) | (with_reducible refine s_or ?_)
  | (with_reducible refine s_andV ?_) | (with_reducible refine s_orV ?_) | (with_reducible refine s_notV ?_) | (with_reducible refine s_ifE ?_) | (with_reducible refine s_bl ?_) | (with_reducible refine s_iT ?_) | (with_reducible refine s_iF ?_)
  | (with_reducible refine s_I0 ?_) | (with_reducible refine s_U ?_) | (with_reducible refine s_addI ?_) | (with_reducible refine s_eqI ?_) | (with_reducible refine s_eqS ?_) | (with_reducible refine s_eqB ?_) | (with_reducible refine s_neI ?_) | (with_reducible refine s_neS ?_) | (with_reducible refine s_neB ?_)
  | (with_reducible refine s_tupE ?_) | (with_reducible refine s_lstE ?_))
local macro_rules | `(tactic| walk_at "us") => `(tactic| repeat walk_at "us1")
local macro_rules | `(tactic| walk_at "ulen") => `(tactic| (intro vs H Q E h; repeat' (first | (obtain ⟨e, _⟩ := h; subst e; rfl) | (subst h; rfl) | (refine Or.elim h (fun h => ?_) (fun h => ?_)) | (obtain ⟨_, h⟩ := h))))
local macro_rules | `(tactic| walk_at "uk") => `(tactic| (try dsimp only [cxOf, Cx.suite, Cx.tr]))
local macro_rules | `(tactic| walk_at "us2") => `(tactic| first
  | walk_at "us1" | (with_reducible refine s_dput ?_) | ((with_reducible refine' s_mod ?hc ?_); (case hc => first | decide | assumption | omega))
  | (with_reducible refine s_for ?_) | (with_reducible refine s_lc ?_) | (with_reducible refine s_bm ?_) | (with_reducible refine s_ilt ?_) | (with_reducible refine s_izx ?_) | (with_reducible refine s_ienum ?_) | (with_reducible refine s_din ?_) | (with_reducible refine s_dnotin ?_) | (with_reducible refine s_itl ?_) | (with_reducible refine s_itt ?_) | (with_reducible refine s_its ?_) | (with_reducible refine s_itr ?_) | (with_reducible refine s_itr2 ?_) | (with_reducible refine s_disp ?_) | (with_reducible refine s_prn ?_) | (with_reducible refine s_prc ?_) | (with_reducible refine s_m1 ?_) | (with_reducible refine s_isS ?_) | (with_reducible refine s_um1 ?_) | (with_reducible refine s_isB ?_) | (with_reducible refine s_isn ?_) | (with_reducible refine s_notn ?_) | (with_reducible refine s_jd ?_) | (with_reducible refine s_jn ?_) | (with_reducible refine s_jc ?_) | (with_reducible refine s_fmt ?_) | (with_reducible refine s_gc ?_) | (with_reducible refine s_gnil ?_) | (with_reducible refine s_yes ?_) | (with_reducible refine s_raise ?_)
  | ((with_reducible refine' s_pow ?hc ?_); (case hc => exact ⟨by decide, by decide, by decide⟩)) | (with_reducible refine s_int ?_) | (with_reducible refine s_intB ?_) | (with_reducible refine s_strS ?_) | (with_reducible refine s_abs ?_) | (with_reducible refine s_max ?_) | (with_reducible refine s_min ?_) | (with_reducible refine s_gcd ?_)
  | (with_reducible refine s_chain ?_) | (with_reducible refine s_sl ?_) | (with_reducible refine s_noP ?_) | (with_reducible refine s_part ?_) | (with_reducible refine s_exI ?_) 
  | ((with_reducible refine' s_mulI ?hc ?_); (case hc => first | exact Or.inl (Or.inr ⟨by decide, by decide⟩) | exact Or.inl (Or.inl ⟨by decide, by decide⟩) | exact Or.inl (Or.inl ⟨by omega, by omega⟩) | exact Or.inl (Or.inr ⟨by omega, by omega⟩) | walk_at "umul"))
  | ((with_reducible refine' s_ixT ?hc ?hd ?_); (case hc => assumption); (case hd => rfl))
  | ((with_reducible refine' s_lenL ?hc ?_); (case hc => first | assumption | exact SqL.of (by assumption))) | ((with_reducible refine' s_lenT ?hc ?_); (case hc => first | assumption | exact SqT.of (by assumption)))
  | ((with_reducible refine' s_divP ?hc ?hd ?_); (case hc => first | decide | assumption | omega); (case hd => first | decide +kernel | assumption)))
local macro_rules | `(tactic| walk_at "us") => `(tactic| repeat walk_at "us2")
local macro_rules | `(tactic| walk_at "uj") => `(tactic| ((walk_at "us"); with_reducible refine s_J ?_))
local macro_rules | `(tactic| walk_at "ua") => `(tactic| ((walk_at "us"); repeat ((first | (refine s_iF ?_) | (refine s_iT ?_)); (walk_at "us"))))
local macro_rules | `(tactic| walk_at "ub") => `(tactic| walk_at "ua")
local macro_rules | `(tactic| walk_at "ux1") => `(tactic| first
  | walk_at "us2" | ((with_reducible refine' s_ixL ?hc ?hd ?_); (case hc => first | assumption | exact SqL.of (by assumption)); (case hd => rfl)) | ((with_reducible refine' s_ixT ?hc ?hd ?_); (case hc => exact SqT.of (by assumption)); (case hd => rfl))
  | ((with_reducible refine' s_intS ?hc ?hd ?_); (case hc => assumption); (case hd => assumption)) | ((with_reducible refine' s_lenS ?hc ?_); (case hc => assumption)))
local macro_rules | `(tactic| walk_at "ux") => `(tactic| repeat walk_at "ux1")
local macro_rules | `(tactic| walk_at "uy") => `(tactic| ((walk_at "ux"); repeat ((first | (refine s_iF ?_) | (refine s_iT ?_)); (walk_at "ux"))))
local macro_rules | `(tactic| walk_at "uz0") => `(tactic| first
  | (with_reducible refine s_seq ?_) | (with_reducible refine s_asg ?_) | (with_reducible refine s_gn ?_) | (with_reducible refine s_ret ?_) | (with_reducible refine s_drop ?_) | (with_reducible refine s_if ?_) | (with_reducible refine s_next ?_)
  | (with_reducible refine s_brk ?_) | (with_reducible refine s_cont ?_)
  | ((with_reducible refine' s_var ?hv ?_); (case hv => exact rfl)) | (with_reducible refine s_c ?_) | (with_reducible refine s_op ?_) | (with_reducible refine s_un ?_) | (with_reducible refine s_cb ?_) | (with_reducible refine s_call ?_)
  | (with_reducible refine s_cons ?_) | (with_reducible refine s_nil ?_) | (with_reducible refine s_test ?_) | (with_reducible refine s_tB ?_) | (with_reducible refine s_not ?_) | (with_reducible refine s_and ?_) | (with_reducible refine s_or ?_)
  | (with_reducible refine s_andV ?_) | (with_reducible refine s_orV ?_) | (with_reducible refine s_notV ?_) | (with_reducible refine s_ifE ?_) | (with_reducible refine s_bl ?_) | (with_reducible refine s_iT ?_) | (with_reducible refine s_iF ?_)
  | (with_reducible refine s_I0 ?_) | (with_reducible refine s_U ?_) | (with_reducible refine s_addI ?_) | (with_reducible refine s_eqI ?_) | (with_reducible refine s_eqS ?_) | (with_reducible refine s_eqB ?_) | (with_reducible refine s_neI ?_) | (with_reducible refine s_neS ?_) | (with_reducible refine s_neB ?_))
local macro_rules | `(tactic| walk_at "uz2") => `(tactic| first
  | walk_at "uz0" | (with_reducible refine s_dput ?_) | ((with_reducible refine' s_mod ?hc ?_); (case hc => first | decide | assumption | omega))
  | (with_reducible refine s_for ?_) | (with_reducible refine s_lc ?_) | (with_reducible refine s_bm ?_) | (with_reducible refine s_ilt ?_) | (with_reducible refine s_izx ?_) | (with_reducible refine s_ienum ?_) | (with_reducible refine s_din ?_) | (with_reducible refine s_dnotin ?_) | (with_reducible refine s_itl ?_) | (with_reducible refine s_itt ?_) | (with_reducible refine s_its ?_) | (with_reducible refine s_itr ?_) | (with_reducible refine s_itr2 ?_) | (with_reducible refine s_disp ?_) | (with_reducible refine s_prn ?_) | (with_reducible refine s_prc ?_) | (with_reducible refine s_m1 ?_) | (with_reducible refine s_isS ?_) | (with_reducible refine s_um1 ?_) | (with_reducible refine s_isB ?_) | (with_reducible refine s_isn ?_) | (with_reducible refine s_notn ?_) | (with_reducible refine s_jd ?_) | (with_reducible refine s_jn ?_) | (with_reducible refine s_jc ?_) | (with_reducible refine s_fmt ?_) | (with_reducible refine s_gc ?_) | (with_reducible refine s_gnil ?_) | (with_reducible refine s_yes ?_) | (with_reducible refine s_raise ?_)
  | ((with_reducible refine' s_pow ?hc ?_); (case hc => exact ⟨by decide, by decide, by decide⟩)) | (with_reducible refine s_int ?_) | (with_reducible refine s_intB ?_) | (with_reducible refine s_strS ?_) | (with_reducible refine s_abs ?_) | (with_reducible refine s_max ?_) | (with_reducible refine s_min ?_) | (with_reducible refine s_gcd ?_)
  | (with_reducible refine s_chain ?_) | (with_reducible refine s_sl ?_) | (with_reducible refine s_noP ?_) | (with_reducible refine s_part ?_) | (with_reducible refine s_exI ?_) 
  | ((with_reducible refine' s_mulI ?hc ?_); (case hc => first | exact Or.inl (Or.inr ⟨by decide, by decide⟩) | exact Or.inl (Or.inl ⟨by decide, by decide⟩) | exact Or.inl (Or.inl ⟨by omega, by omega⟩) | exact Or.inl (Or.inr ⟨by omega, by omega⟩) | walk_at "umul"))
  | ((with_reducible refine' s_ixT ?hc ?hd ?_); (case hc => assumption); (case hd => rfl))
  | ((with_reducible refine' s_lenL ?hc ?_); (case hc => first | assumption | exact SqL.of (by assumption))) | ((with_reducible refine' s_lenT ?hc ?_); (case hc => first | assumption | exact SqT.of (by assumption)))
  | ((with_reducible refine' s_divP ?hc ?hd ?_); (case hc => first | decide | assumption | omega); (case hd => first | decide +kernel | assumption)))
local macro_rules | `(tactic| walk_at "uz1") => `(tactic| first
  | walk_at "uz2" | ((with_reducible refine' s_ixL ?hc ?hd ?_); (case hc => first | assumption | exact SqL.of (by assumption)); (case hd => rfl)) | ((with_reducible refine' s_ixT ?hc ?hd ?_); (case hc => exact SqT.of (by assumption)); (case hd => rfl))
  | ((with_reducible refine' s_intS ?hc ?hd ?_); (case hc => assumption); (case hd => assumption)) | ((with_reducible refine' s_lenS ?hc ?_); (case hc => assumption)))
local macro_rules | `(tactic| walk_at "uz") => `(tactic| ((repeat walk_at "uz1"); repeat ((first | (refine s_iF ?_) | (refine s_iT ?_)); (repeat walk_at "uz1"))))
section
variable {P : Program} {w : World} {K : PySem.W.Frag} {mg : Str → Option Value} {base : Heap}
variable {cE cH cU cW : Addr}
theorem ok_divided (T : Tp P K mg cE cH cU cW)
    (c_is_dimension : Cal P w K mg base 2 "is_dimension" P_is_dimension [] (spIsDim K))
    {f : Addr} {fd : FuncData} {dvs : List V} (F : FunD K "divided" "divided" (defArgs s_divided) (defBody s_divided) (defScope s_divided) dvs [] f fd) : FnG P w K mg base 3 f fd P_divided (spMul K cH (· - ·)) := by
  refine fng F sc_divided (by walk_at "ulen") (fun cdv A outer s H vs Q E hr0 hg0 h => ?_)
  have hr : Rm 2 (A.deeper (envOfC "divided" (defScope s_divided) s.heap.objs.size f cdv)) := ⟨hr0, hg0⟩
  have nd : N_divided.Nodup := sc_divided.nd
  have tk : Takes (cxOf (L2.CX P w) P w K mg base N_divided "divided" (defScope s_divided) f cdv A outer s H E) (fun cls d _ H => E cls d H) := takes_of rfl rfl rfl rfl
  obtain ⟨a, b, xs, ys, rfl, ⟨p, rfl, hp⟩, ⟨q, rfl, hq⟩, hl, h100, k, kx⟩ := h
  have zl : (List.zipWith (fun x y : Int => x - y) xs ys).length = xs.length := by rw [List.length_zipWith]; omega
  refine ⟨_, (pss_cons (ps_set (i := 2) nd rfl (Or.inl rfl) (pe_callTy call_uTup (by rfl) T.tuple b_tuple (pa_cons (pe_lc (own := [("one", 3), ("two", 4)]) (g := (gTup K 2 (gCons (gName 3) (gCons (gName 4) gNil)))) (by rfl) nd (Zx.pi_zx (by rfl) T.zip (pa_cons (pv 0) (pa_cons (pv 1) pa_nil))) (blkOk_by (own := [("one", 3), ("two", 4)]) (N := N_divided) (sc := defScope s_divided) (by decide +kernel)) (fun s_ H_ C_ cl_ fp_ => (by exact (pg_tup rfl (pgs_cons (pg_name (i := 3) nd rfl (Or.inl rfl)) (pgs_cons (pg_name (i := 4) nd rfl (Or.inl rfl)) pgs_nil))))) (fun s_ H_ C_ cl_ fp_ => pts_nil) (fun s_ H_ C_ cl_ fp_ => (pe_op op_sub (pv 3) (pv 4)))) pa_nil)))
    (pss_cons (ps_if (pt_not (pt_val (pe_c (E := En) c_is_dimension (hr.mono (by decide)) paN (pa_cons (pv 2) (pa_cons (pe_callB call_uLen (by rfl) T.len b_len (pa_cons (pv 2) pa_nil)) pa_nil))))) (pss_one (ps_raiseX rfl T.x_TooHigh hr.r tk (by decide) (by decide) (pa_cons (pv 2) pa_nil))) pss_nil)
    (pss_one (ps_ret (pv 2))))), ?_⟩
  walk_at "uk"
  walk_at "us"
  refine lcZ (j := false) (k := false) xs.length (by rw [List.length_map, List.length_map]; omega) hp hq (fun D i acc H' => Ex H H' ∧ H' D = some (.lst acc) ∧ acc = ((List.zipWith (fun x y : Int => x - y) xs ys).take i).map V.int) (fun D n => ⟨exN n, upd_same, rfl⟩) (fun D i acc H' _ h => h.1.kx) ?_ ?_
  · rintro D acc H' nD ⟨e, hD, rfl⟩
    walk_at "uy"
    refine s_tupOfL (.of hD) fun r H2 e2 hr => ?_
    rw [← zl, List.take_length] at hr
    walk_at "uy"
    refine ⟨.ref r, _, _, rfl, tupI_dp hr, (by show (List.map PyData.int _).length ≤ 1000; rw [List.length_map, zl]; omega), fun H3 e3 => ?_⟩
    rw [List.length_map, isDim_ints]
    have e4 := (e.tr e2).tr e3
    refine s_if1 (x := inR (List.zipWith (fun x y : Int => x - y) xs ys)) (fun z => ?_) (fun z => ?_)
    · rw [z]
      walk_at "uy"
      exact k z _ H3 e4 ⟨r, rfl, Ex.st hr e3⟩
    · rw [z]
      walk_at "uy"
      exact ⟨rfl, fun d nd => kx z _ d _ (e4.tr (exN nd)) ⟨r, rfl, Ex.st (Ex.st hr e3) (exN nd)⟩ upd_same⟩
  · rintro D i x y T acc H' nD hx hy ⟨e, hD, rfl⟩ nT
    obtain ⟨a, b, rfl, rfl, hz⟩ := zw_get (g := fun x y => x - y) hx hy
    refine s_gt (.of upd_same) rfl ?_
    walk_at "uy"
    refine ⟨rfl, ?_⟩
    walk_at "uy"
    have nDT : D ≠ T := fun z => by rw [z, nT] at hD; cases hD
    refine ⟨_, by rw [upd_ne nDT]; exact hD, by rw [List.length_map, List.length_take]; show _ < 16777216; omega, _, ex_put nD (e.tr (exN nT)), upd_same, ?_⟩
    rw [List.take_add_one, hz, List.map_append]
    rfl
end
end Lw

set_option Elab.async false
set_option linter.all false
set_option maxRecDepth 100000
set_option maxHeartbeats 4000000
namespace Lw
open PySem PySem.Spec L2 Uv
open PyProof.Rows hiding St
local macro_rules | `(tactic| walk_at "umul") => `(tactic| fail)
local macro_rules | `(tactic| walk_at "us1") => `(tactic| first
  | (with_reducible refine s_seq ?_) | (with_reducible refine s_asg ?_) | (with_reducible refine s_gn ?_) | (with_reducible refine s_ret ?_) | (with_reducible refine s_drop ?_) | (with_reducible refine s_if ?_) | (with_reducible refine s_next ?_)
  | (with_reducible refine s_brk ?_) | (with_reducible refine s_cont ?_)
  | ((with_reducible refine' s_var ?hv ?_); (case hv => exact rfl)) | (with_reducible refine s_c ?_) | (with_reducible refine s_op ?_) | (with_reducible refine s_un ?_) | (with_reducible refine s_cb ?_) | (with_reducible refine s_call ?_)
  | (with_reducible refine s_cons ?_) | (with_reducible refine s_nil ?_) | (with_reducible refine s_test ?_) | (with_reducible refine s_tB ?_) | (with_reducible refine s_not ?_) | (with_reducible refine s_and ?_) | (with_reducible refine s_or ?_)
  | (with_reducible refine s_andV ?_) | (with_reducible refine s_orV ?_) | (with_reducible refine s_notV ?_) | (with_reducible refine s_ifE ?_) | (with_reducible refine s_bl ?_) | (with_reducible refine s_iT ?_) | (with_reducible refine s_iF ?_)
  | (with_reducible refine s_I0 ?_) | (with_reducible refine s_U ?_) | (with_reducible refine s_addI ?_) | (with_reducible refine s_eqI ?_) | (with_reducible refine s_eqS ?_) | (with_reducible refine s_eqB ?_) | (with_reducible refine s_neI ?_) | (with_reducible refine s_neS ?_) | (with_reducible refine s_neB ?_)
  | (with_reducible refine s_tupE ?_) | (with_reducible refine s_lstE ?_))
local macro_rules | `(tactic| walk_at "us") => `(tactic| repeat walk_at "us1")
local macro_rules | `(tactic| walk_at "ulen") => `(tactic| (intro vs H Q E h; repeat' (first | (obtain ⟨e, _⟩ := h; subst e; rfl) | (subst h; rfl) | (refine Or.elim h (fun h => ?_) (fun h => ?_)) | (obtain ⟨_, h⟩ := h))))
local macro_rules | `(tactic| walk_at "uk") => `(tactic| (try dsimp only [cxOf, Cx.suite, Cx.tr]))
local macro_rules | `(tactic| walk_at "us2") => `(tactic| first
  | walk_at "us1" | (with_reducible refine s_dput ?_) | ((with_reducible refine' s_mod ?hc ?_); (case hc => first | decide | assumption | omega))
  | (with_reducible refine s_for ?_) | (with_reducible refine s_lc ?_) | (with_reducible refine s_bm ?_) | (with_reducible refine s_ilt ?_) | (with_reducible refine s_izx ?_) | (with_reducible refine s_ienum ?_) | (with_reducible refine s_din ?_) | (with_reducible refine s_dnotin ?_) | (with_reducible refine s_itl ?_) | (with_reducible refine s_itt ?_) | (with_reducible refine s_its ?_) | (with_reducible refine s_itr ?_) | (with_reducible refine s_itr2 ?_) | (with_reducible refine s_disp ?_) | (with_reducible refine s_prn ?_) | (with_reducible refine s_prc ?_) | (with_reducible refine s_m1 ?_) | (with_reducible refine s_isS ?_) | (with_reducible refine s_um1 ?_) | (with_reducible refine s_isB ?_) | (with_reducible refine s_isn ?_) | (with_reducible refine s_notn ?_) | (with_reducible refine s_jd ?_) | (with_reducible refine s_jn ?_) | (with_reducible refine s_jc ?_) | (with_reducible refine s_fmt ?_) | (with_reducible refine s_gc ?_) | (with_reducible refine s_gnil ?_) | (with_reducible refine s_yes ?_) | (with_reducible refine s_raise ?_)
  | ((with_reducible refine' s_pow ?hc ?_); (case hc => exact ⟨by decide, by decide, by decide⟩)) | (with_reducible refine s_int ?_) | (with_reducible refine s_intB ?_) | (with_reducible refine s_strS ?_) | (with_reducible refine s_abs ?_) | (with_reducible refine s_max ?_) | (with_reducible refine s_min ?_) | (with_reducible refine s_gcd ?_)
  | (with_reducible refine s_chain ?_) | (with_reducible refine s_sl ?_) | (with_reducible refine s_noP ?_) | (with_reducible refine s_part ?_) | (with_reducible refine s_exI ?_) 
  | ((with_reducible refine' s_mulI ?hc ?_); (case hc => first | exact Or.inl (Or.inr ⟨by decide, by decide⟩) | exact Or.inl (Or.inl ⟨by decide, by decide⟩) | exact Or.inl (Or.inl ⟨by omega, by omega⟩) | exact Or.inl (Or.inr ⟨by omega, by omega⟩) | walk_at "umul"))
  | ((with_reducible refine' s_ixT ?hc ?hd ?_); (case hc => assumption); (case hd => rfl))
  | ((with_reducible refine' s_lenL ?hc ?_); (case hc => first | assumption | exact SqL.of (by assumption))) | ((with_reducible refine' s_lenT ?hc ?_); (case hc => first | assumption | exact SqT.of (by assumption)))
  | ((with_reducible refine' s_divP ?hc ?hd ?_); (case hc => first | decide | assumption | omega); (case hd => first | decide +kernel | assumption)))
local macro_rules | `(tactic| walk_at "us") => `(tactic| repeat walk_at "us2")
local macro_rules | `(tactic| walk_at "uj") => `(tactic| ((walk_at "us"); with_reducible refine s_J ?_))
local macro_rules | `(tactic| walk_at "ua") => `(tactic| ((walk_at "us"); repeat ((first | (refine s_iF ?_) | (refine s_iT ?_)); (walk_at "us"))))
local macro_rules | `(tactic| walk_at "ub") => `(tactic| walk_at "ua")
local macro_rules | `(tactic| walk_at "ux1") => `(tactic| first
  | walk_at "us2" | ((with_reducible refine' s_ixL ?hc ?hd ?_); (case hc => first | assumption | exact SqL.of (by assumption)); (case hd => rfl)) | ((with_reducible refine' s_ixT ?hc ?hd ?_); (case hc => exact SqT.of (by assumption)); (case hd => rfl))
  | ((with_reducible refine' s_intS ?hc ?hd ?_); (case hc => assumption); (case hd => assumption)) | ((with_reducible refine' s_lenS ?hc ?_); (case hc => assumption)))
local macro_rules | `(tactic| walk_at "ux") => `(tactic| repeat walk_at "ux1")
local macro_rules | `(tactic| walk_at "uy") => `(tactic| ((walk_at "ux"); repeat ((first | (refine s_iF ?_) | (refine s_iT ?_)); (walk_at "ux"))))
local macro_rules | `(tactic| walk_at "uz0") => `(tactic| first
  | (with_reducible refine s_seq ?_) | (with_reducible refine s_asg ?_) | (with_reducible refine s_gn ?_) | (with_reducible refine s_ret ?_) | (with_reducible refine s_drop ?_) | (with_reducible refine s_if ?_) | (with_reducible refine s_next ?_)
  | (with_reducible refine s_brk ?_) | (with_reducible refine s_cont ?_)
  | ((with_reducible refine' s_var ?hv ?_); (case hv => exact rfl)) | (with_reducible refine s_c ?_) | (with_reducible refine s_op ?_) | (with_reducible refine s_un ?_) | (with_reducible refine s_cb ?_) | (with_reducible refine s_call ?_)
  | (with_reducible refine s_cons ?_) | (with_reducible refine s_nil ?_) | (with_reducible refine s_test ?_) | (with_reducible refine s_tB ?_) | (with_reducible refine s_not ?_) | (with_reducible refine s_and ?_) | (with_reducible refine s_or ?_)
  | (with_reducible refine s_andV ?_) | (with_reducible refine s_orV ?_) | (with_reducible refine s_notV ?_) | (with_reducible refine s_ifE ?_) | (with_reducible refine s_bl ?_) | (with_reducible refine s_iT ?_) | (with_reducible refine s_iF ?_)
  | (with_reducible refine s_I0 ?_) | (with_reducible refine s_U ?_) | (with_reducible refine s_addI ?_) | (with_reducible refine s_eqI ?_) | (with_reducible refine s_eqS ?_) | (with_reducible refine s_eqB ?_) | (with_reducible refine s_neI ?_) | (with_reducible refine s_neS ?_) | (with_reducible refine s_neB ?_))
local macro_rules | `(tactic| walk_at "uz2") => `(tactic| first
  | walk_at "uz0" | (with_reducible refine s_dput ?_) | ((with_reducible refine' s_mod ?hc ?_); (case hc => first | decide | assumption | omega))
  | (with_reducible refine s_for ?_) | (with_reducible refine s_lc ?_) | (with_reducible refine s_bm ?_) | (with_reducible refine s_ilt ?_) | (with_reducible refine s_izx ?_) | (with_reducible refine s_ienum ?_) | (with_reducible refine s_din ?_) | (with_reducible refine s_dnotin ?_) | (with_reducible refine s_itl ?_) | (with_reducible refine s_itt ?_) | (with_reducible refine s_its ?_) | (with_reducible refine s_itr ?_) | (with_reducible refine s_itr2 ?_) | (with_reducible refine s_disp ?_) | (with_reducible refine s_prn ?_) | (with_reducible refine s_prc ?_) | (with_reducible refine s_m1 ?_) | (with_reducible refine s_isS ?_) | (with_reducible refine s_um1 ?_) | (with_reducible refine s_isB ?_) | (with_reducible refine s_isn ?_) | (with_reducible refine s_notn ?_) | (with_reducible refine s_jd ?_) | (with_reducible refine s_jn ?_) | (with_reducible refine s_jc ?_) | (with_reducible refine s_fmt ?_) | (with_reducible refine s_gc ?_) | (with_reducible refine s_gnil ?_) | (with_reducible refine s_yes ?_) | (with_reducible refine s_raise ?_)
  | ((with_reducible refine' s_pow ?hc ?_); (case hc => exact ⟨by decide, by decide, by decide⟩)) | (with_reducible refine s_int ?_) | (with_reducible refine s_intB ?_) | (with_reducible refine s_strS ?_) | (with_reducible refine s_abs ?_) | (with_reducible refine s_max ?_) | (with_reducible refine s_min ?_) | (with_reducible refine s_gcd ?_)
  | (with_reducible refine s_chain ?_) | (with_reducible refine s_sl ?_) | (with_reducible refine s_noP ?_) | (with_reducible refine s_part ?_) | (with_reducible refine s_exI ?_) 
  | ((with_reducible refine' s_mulI ?hc ?_); (case hc => first | exact Or.inl (Or.inr ⟨by decide, by decide⟩) | exact Or.inl (Or.inl ⟨by decide, by decide⟩) | exact Or.inl (Or.inl ⟨by omega, by omega⟩) | exact Or.inl (Or.inr ⟨by omega, by omega⟩) | walk_at "umul"))
  | ((with_reducible refine' s_ixT ?hc ?hd ?_); (case hc => assumption); (case hd => rfl))
  | ((with_reducible refine' s_lenL ?hc ?_); (case hc => first | assumption | exact SqL.of (by assumption))) | ((with_reducible refine' s_lenT ?hc ?_); (case hc => first | assumption | exact SqT.of (by assumption)))
  | ((with_reducible refine' s_divP ?hc ?hd ?_); (case hc => first | decide | assumption | omega); (case hd => first | decide +kernel | assumption)))
local macro_rules | `(tactic| walk_at "uz1") => `(tactic| first
  | walk_at "uz2" | ((with_reducible refine' s_ixL ?hc ?hd ?_); (case hc => first | assumption | exact SqL.of (by assumption)); (case hd => rfl)) | ((with_reducible refine' s_ixT ?hc ?hd ?_); (case hc => exact SqT.of (by assumption)); (case hd => rfl))
  | ((with_reducible refine' s_intS ?hc ?hd ?_); (case hc => assumption); (case hd => assumption)) | ((with_reducible refine' s_lenS ?hc ?_); (case hc => assumption)))
local macro_rules | `(tactic| walk_at "uz") => `(tactic| ((repeat walk_at "uz1"); repeat ((first | (refine s_iF ?_) | (refine s_iT ?_)); (repeat walk_at "uz1"))))
section
variable {P : Program} {w : World} {K : PySem.W.Frag} {mg : Str → Option Value} {base : Heap}
variable {cE cH cU cW : Addr}
theorem ok_base_dimension (T : Tp P K mg cE cH cU cW)
    {f : Addr} {fd : FuncData} {dvs : List V} (F : FunD K "base_dimension" "base_dimension" (defArgs s_base_dimension) (defBody s_base_dimension) (defScope s_base_dimension) dvs [] f fd) : FnG P w K mg base 2 f fd P_base_dimension (spBase K cU) := by
  refine fng F sc_base_dimension (by walk_at "ulen") (fun cdv A outer s H vs Q E hr0 hg0 h => ?_)
  have hr : Rm 1 (A.deeper (envOfC "base_dimension" (defScope s_base_dimension) s.heap.objs.size f cdv)) := ⟨hr0, hg0⟩
  have nd : N_base_dimension.Nodup := sc_base_dimension.nd
  have tk : Takes (cxOf (L2.CX P w) P w K mg base N_base_dimension "base_dimension" (defScope s_base_dimension) f cdv A outer s H E) (fun cls d _ H => E cls d H) := takes_of rfl rfl rfl rfl
  obtain ⟨p, n, bs, rfl, hp, h100, k, kx⟩ := h
  refine ⟨_, (pss_cons (ps_if (pt_cmpR op_notIn_seq (pv 1) (pv 0) rfl) (pss_one (ps_raiseX rfl T.x_Unknown hr.r tk (by decide) (by decide) (pa_cons (pv 1) pa_nil))) pss_nil)
    (pss_one (ps_ret (pe_callTy call_uTup (by rfl) T.tuple b_tuple (pa_cons (pe_lc (own := [("base", 2)]) (g := gName 2) (by rfl) nd (Zx.pi_lt (pv 0)) (blkOk_by (own := [("base", 2)]) (N := N_base_dimension) (sc := defScope s_base_dimension) (by decide +kernel)) (fun s_ H_ C_ cl_ fp_ => pg_name (i := 2) nd rfl (Or.inl rfl)) (fun s_ H_ C_ cl_ fp_ => pts_nil) (fun s_ H_ C_ cl_ fp_ => (pe_callTy call_uInt (by rfl) T.int b_int (pa_cons (pe_cmpR (op_uEqK (K := K) rfl hr.r.units) (pv 2) (pv 1) (nomark _)) pa_nil)))) pa_nil))))), ?_⟩
  walk_at "uk"
  walk_at "uy"
  refine ⟨p, _, rfl, hp, rfl, flat_strs _, ?_⟩
  walk_at "uy"
  rw [inV_strs]
  refine s_iteN (fun hn => ?_) (fun hn => ?_)
  · walk_at "uy"
    exact ⟨rfl, fun d nd => kx hn d _ (exN nd) upd_same⟩
  · walk_at "uy"
    refine lcA hp (fun D i acc H' => Ex H H' ∧ H' D = some (.lst acc) ∧ acc = (baseV (bs.take i) n).map V.int) (fun D n => ⟨exN n, upd_same, rfl⟩) (fun D i acc H' _ h => h.1.kx) ?_ ?_
    · rintro D acc H' nD ⟨e, hD, rfl⟩
      walk_at "uy"
      refine s_tupOfL (.of hD) fun q H2 e2 hq => k hn _ H2 (e.tr e2) ⟨q, rfl, ?_⟩
      rw [List.length_map, List.take_length] at hq
      exact hq
    · rintro D i x acc H' nD hx ⟨e, hD, rfl⟩
      walk_at "uy"
      obtain ⟨b, hb, rfl⟩ : ∃ b, bs[i]? = some b ∧ x = .str b := by
        rw [List.getElem?_map] at hx
        cases q : bs[i]? with
        | none => rw [q] at hx; cases hx
        | some b => rw [q] at hx; cases hx; exact ⟨b, rfl, rfl⟩
      refine ⟨rfl, ?_⟩
      walk_at "uy"
      refine ⟨_, hD, by rw [List.length_map, baseV, List.length_map, List.length_take]; show _ < 16777216; omega, _, ex_put nD e, upd_same, ?_⟩
      unfold baseV
      rw [List.take_add_one, hb, List.map_append, List.map_append]
      by_cases z : b = n
      · simp [z]
      · simp [z]
end
end Lw

set_option Elab.async false
set_option linter.all false
set_option maxRecDepth 100000
set_option maxHeartbeats 4000000
namespace Lw
open PySem PySem.Spec L2 Uv
open PyProof.Rows hiding St
local macro_rules | `(tactic| walk_at "umul") => `(tactic| fail)
local macro_rules | `(tactic| walk_at "us1") => `(tactic| first
  | (with_reducible refine s_seq ?_) | (with_reducible refine s_asg ?_) | (with_reducible refine s_gn ?_) | (with_reducible refine s_ret ?_) | (with_reducible refine s_drop ?_) | (with_reducible refine s_if ?_) | (with_reducible refine s_next ?_)
  | (with_reducible refine s_brk ?_) | (with_reducible refine s_cont ?_)
  | ((with_reducible refine' s_var ?hv ?_); (case hv => exact rfl)) | (with_reducible refine s_c ?_) | (with_reducible refine s_op ?_) | (with_reducible refine s_un ?_) | (with_reducible refine s_cb ?_) | (with_reducible refine s_call ?_)
  | (with_reducible refine s_cons ?_) | (with_reducible refine s_nil ?_) | (with_reducible refine s_test ?_) | (with_reducible refine s_tB ?_) | (with_reducible refine s_not ?_) | (with_reducible refine s_and ?_) | (with_reducible refine s_or ?_)
  | (with_reducible refine s_andV ?_) | (with_reducible refine s_orV ?_) | (with_reducible refine s_notV ?_) | (with_reducible refine s_ifE ?_) | (with_reducible refine s_bl ?_) | (with_reducible refine s_iT ?_) | (with_reducible refine s_iF ?_)
  | (with_reducible refine s_I0 ?_) | (with_reducible refine s_U ?_) | (with_reducible refine s_addI ?_) | (with_reducible refine s_eqI ?_) | (with_reducible refine s_eqS ?_) | (with_reducible refine s_eqB ?_) | (with_reducible refine s_neI ?_) | (with_reducible refine s_neS ?_) | (with_reducible refine s_neB ?_)
  | (with_reducible refine s_tupE ?_) | (with_reducible refine s_lstE ?_))
local macro_rules | `(tactic| walk_at "us") => `(tactic| repeat walk_at "us1")
local macro_rules | `(tactic| walk_at "ulen") => `(tactic| (intro vs H Q E h; repeat' (first | (obtain ⟨e, _⟩ := h; subst e; rfl) | (subst h; rfl) | (refine Or.elim h (fun h => ?_) (fun h => ?_)) | (obtain ⟨_, h⟩ := h))))
local macro_rules | `(tactic| walk_at "uk") => `(tactic| (try dsimp only [cxOf, Cx.suite, Cx.tr]))
local macro_rules | `(tactic| walk_at "us2") => `(tactic| first
  | walk_at "us1" | (with_reducible refine s_dput ?_) | ((with_reducible refine' s_mod ?hc ?_); (case hc => first | decide | assumption | omega))
  | (with_reducible refine s_for ?_) | (with_reducible refine s_lc ?_) | (with_reducible refine s_bm ?_) | (with_reducible refine s_ilt ?_) | (with_reducible refine s_izx ?_) | (with_reducible refine s_ienum ?_) | (with_reducible refine s_din ?_) | (with_reducible refine s_dnotin ?_) | (with_reducible refine s_itl ?_) | (with_reducible refine s_itt ?_) | (with_reducible refine s_its ?_) | (with_reducible refine s_itr ?_) | (with_reducible refine s_itr2 ?_) | (with_reducible refine s_disp ?_) | (with_reducible refine s_prn ?_) | (with_reducible refine s_prc ?_) | (with_reducible refine s_m1 ?_) | (with_reducible refine s_isS ?_) | (with_reducible refine s_um1 ?_) | (with_reducible refine s_isB ?_) | (with_reducible refine s_isn ?_) | (with_reducible refine s_notn ?_) | (with_reducible refine s_jd ?_) | (with_reducible refine s_jn ?_) | (with_reducible refine s_jc ?_) | (with_reducible refine s_fmt ?_) | (with_reducible refine s_gc ?_) | (with_reducible refine s_gnil ?_) | (with_reducible refine s_yes ?_) | (with_reducible refine s_raise ?_)
  | ((with_reducible refine' s_pow ?hc ?_); (case hc => exact ⟨by decide, by decide, by decide⟩)) | (with_reducible refine s_int ?_) | (with_reducible refine s_intB ?_) | (with_reducible refine s_strS ?_) | (with_reducible refine s_abs ?_) | (with_reducible refine s_max ?_) | (with_reducible refine s_min ?_) | (with_reducible refine s_gcd ?_)
  | (with_reducible refine s_chain ?_) | (with_reducible refine s_sl ?_) | (with_reducible refine s_noP ?_) | (with_reducible refine s_part ?_) | (with_reducible refine s_exI ?_) 
  | ((with_reducible refine' s_mulI ?hc ?_); (case hc => first | exact Or.inl (Or.inr ⟨by decide, by decide⟩) | exact Or.inl (Or.inl ⟨by decide, by decide⟩) | exact Or.inl (Or.inl ⟨by omega, by omega⟩) | exact Or.inl (Or.inr ⟨by omega, by omega⟩) | walk_at "umul"))
  | ((with_reducible refine' s_ixT ?hc ?hd ?_); (case hc => assumption); (case hd => rfl))
  | ((with_reducible refine' s_lenL ?hc ?_); (case hc => first | assumption | exact SqL.of (by assumption))) | ((with_reducible refine' s_lenT ?hc ?_); (case hc => first | assumption | exact SqT.of (by assumption)))
  | ((with_reducible refine' s_divP ?hc ?hd ?_); (case hc => first | decide | assumption | omega); (case hd => first | decide +kernel | assumption)))
local macro_rules | `(tactic| walk_at "us") => `(tactic| repeat walk_at "us2")
local macro_rules | `(tactic| walk_at "uj") => `(tactic| ((walk_at "us"); with_reducible refine s_J ?_))
local macro_rules | `(tactic| walk_at "ua") => `(tactic| ((walk_at "us"); repeat ((first | (refine s_iF ?_) | (refine s_iT ?_)); (walk_at "us"))))
local macro_rules | `(tactic| walk_at "ub") => `(tactic| walk_at "ua")
local macro_rules | `(tactic| walk_at "ux1") => `(tactic| first
  | walk_at "us2" | ((with_reducible refine' s_ixL ?hc ?hd ?_); (case hc => first | assumption | exact SqL.of (by assumption)); (case hd => rfl)) | ((with_reducible refine' s_ixT ?hc ?hd ?_); (case hc => exact SqT.of (by assumption)); (case hd => rfl))
  | ((with_reducible refine' s_intS ?hc ?hd ?_); (case hc => assumption); (case hd => assumption)) | ((with_reducible refine' s_lenS ?hc ?_); (case hc => assumption)))
local macro_rules | `(tactic| walk_at "ux") => `(tactic| repeat walk_at "ux1")
local macro_rules | `(tactic| walk_at "uy") => `(tactic| ((walk_at "ux"); repeat ((first | (refine s_iF ?_) | (refine s_iT ?_)); (walk_at "ux"))))
local macro_rules | `(tactic| walk_at "uz0") => `(tactic| first
  | (with_reducible refine s_seq ?_) | (with_reducible refine s_asg ?_) | (with_reducible refine s_gn ?_) | (with_reducible refine s_ret ?_) | (with_reducible refine s_drop ?_) | (with_reducible refine s_if ?_) | (with_reducible refine s_next ?_)
  | (with_reducible refine s_brk ?_) | (with_reducible refine s_cont ?_)
  | ((with_reducible refine' s_var ?hv ?_); (case hv => exact rfl)) | (with_reducible refine s_c ?_) | (with_reducible refine s_op ?_) | (with_reducible refine s_un ?_) | (with_reducible refine s_cb ?_) | (with_reducible refine s_call ?_)
  | (with_reducible refine s_cons ?_) | (with_reducible refine s_nil ?_) | (with_reducible refine s_test ?_) | (with_reducible refine s_tB ?_) | (with_reducible refine s_not ?_) | (with_reducible refine s_and ?_) | (with_reducible refine s_or ?_)
  | (with_reducible refine s_andV ?_) | (with_reducible refine s_orV ?_) | (with_reducible refine s_notV ?_) | (with_reducible refine s_ifE ?_) | (with_reducible refine s_bl ?_) | (with_reducible refine s_iT ?_) | (with_reducible refine s_iF ?_)
  | (with_reducible refine s_I0 ?_) | (with_reducible refine s_U ?_) | (with_reducible refine s_addI ?_) | (with_reducible refine s_eqI ?_) | (with_reducible refine s_eqS ?_) | (with_reducible refine s_eqB ?_) | (with_reducible refine s_neI ?_) | (with_reducible refine s_neS ?_) | (with_reducible refine s_neB ?_))
local macro_rules | `(tactic| walk_at "uz2") => `(tactic| first
  | walk_at "uz0" | (with_reducible refine s_dput ?_) | ((with_reducible refine' s_mod ?hc ?_); (case hc => first | decide | assumption | omega))
  | (with_reducible refine s_for ?_) | (with_reducible refine s_lc ?_) | (with_reducible refine s_bm ?_) | (with_reducible refine s_ilt ?_) | (with_reducible refine s_izx ?_) | (with_reducible refine s_ienum ?_) | (with_reducible refine s_din ?_) | (with_reducible refine s_dnotin ?_) | (with_reducible refine s_itl ?_) | (with_reducible refine s_itt ?_) | (with_reducible refine s_its ?_) | (with_reducible refine s_itr ?_) | (with_reducible refine s_itr2 ?_) | (with_reducible refine s_disp ?_) | (with_reducible refine s_prn ?_) | (with_reducible refine s_prc ?_) | (with_reducible refine s_m1 ?_) | (with_reducible refine s_isS ?_) | (with_reducible refine s_um1 ?_) | (with_reducible refine s_isB ?_) | (with_reducible refine s_isn ?_) | (with_reducible refine s_notn ?_) | (with_reducible refine s_jd ?_) | (with_reducible refine s_jn ?_) | (with_reducible refine s_jc ?_) | (with_reducible refine s_fmt ?_) | (with_reducible refine s_gc ?_) | (with_reducible refine s_gnil ?_) | (with_reducible refine s_yes ?_) | (with_reducible refine s_raise ?_)
  | ((with_reducible refine' s_pow ?hc ?_); (case hc => exact ⟨by decide, by decide, by decide⟩)) | (with_reducible refine s_int ?_) | (with_reducible refine s_intB ?_) | (with_reducible refine s_strS ?_) | (with_reducible refine s_abs ?_) | (with_reducible refine s_max ?_) | (with_reducible refine s_min ?_) | (with_reducible refine s_gcd ?_)
  | (with_reducible refine s_chain ?_) | (with_reducible refine s_sl ?_) | (with_reducible refine s_noP ?_) | (with_reducible refine s_part ?_) | (with_reducible refine s_exI ?_) 
  | ((with_reducible refine' s_mulI ?hc ?_); (case hc => first | exact Or.inl (Or.inr ⟨by decide, by decide⟩) | exact Or.inl (Or.inl ⟨by decide, by decide⟩) | exact Or.inl (Or.inl ⟨by omega, by omega⟩) | exact Or.inl (Or.inr ⟨by omega, by omega⟩) | walk_at "umul"))
  | ((with_reducible refine' s_ixT ?hc ?hd ?_); (case hc => assumption); (case hd => rfl))
  | ((with_reducible refine' s_lenL ?hc ?_); (case hc => first | assumption | exact SqL.of (by assumption))) | ((with_reducible refine' s_lenT ?hc ?_); (case hc => first | assumption | exact SqT.of (by assumption)))
  | ((with_reducible refine' s_divP ?hc ?hd ?_); (case hc => first | decide | assumption | omega); (case hd => first | decide +kernel | assumption)))
local macro_rules | `(tactic| walk_at "uz1") => `(tactic| first
  | walk_at "uz2" | ((with_reducible refine' s_ixL ?hc ?hd ?_); (case hc => first | assumption | exact SqL.of (by assumption)); (case hd => rfl)) | ((with_reducible refine' s_ixT ?hc ?hd ?_); (case hc => exact SqT.of (by assumption)); (case hd => rfl))
  | ((with_reducible refine' s_intS ?hc ?hd ?_); (case hc => assumption); (case hd => assumption)) | ((with_reducible refine' s_lenS ?hc ?_); (case hc => assumption)))
local macro_rules | `(tactic| walk_at "uz") => `(tactic| ((repeat walk_at "uz1"); repeat ((first | (refine s_iF ?_) | (refine s_iT ?_)); (repeat walk_at "uz1"))))
theorem terms_ex {H H' : Hp} {p : Addr} {xs : List V} (e : ∀ a o, a ≠ p → H a = some o → H' a = some o) (hp : H p = some (.lst xs)) : ∀ {vs : List V} {ts : List (Int × Str)}, TermsAt H vs ts → TermsAt H' vs ts
  | [], [], _ => trivial
  | v :: vs, t :: ts, ⟨⟨a, ha, h1⟩, h2⟩ => ⟨⟨a, ha, e a _ (fun z => by rw [z, hp] at h1; cases h1) h1⟩, terms_ex e hp h2⟩
theorem terms_add {H : Hp} {v : V} {t : Int × Str} : ∀ {vs : List V} {ts : List (Int × Str)}, TermsAt H vs ts → (∃ a, v = .ref a ∧ H a = some (.tup [.int t.1, .str t.2])) → TermsAt H (vs ++ [v]) (ts ++ [t])
  | [], [], _, h => ⟨h, trivial⟩
  | v :: vs, t :: ts, ⟨h1, h2⟩, h => ⟨h1, terms_add h2 h⟩
section
variable {P : Program} {w : World} {K : PySem.W.Frag} {mg : Str → Option Value} {base : Heap}
variable {cE cH cU cW : Addr}
theorem ok_terms_of (T : Tp P K mg cE cH cU cW)
    {f : Addr} {fd : FuncData} {dvs : List V} (F : FunD K "terms_of" "terms_of" (defArgs s_terms_of) (defBody s_terms_of) (defScope s_terms_of) dvs [] f fd) : FnG P w K mg base 1 f fd P_terms_of (spTerms) := by
  refine fng F sc_terms_of (by walk_at "ulen") (fun cdv A outer s H vs Q E hr0 hg0 h => ?_)
  have hr : Rm 0 (A.deeper (envOfC "terms_of" (defScope s_terms_of) s.heap.objs.size f cdv)) := ⟨hr0, hg0⟩
  have nd : N_terms_of.Nodup := sc_terms_of.nd
  have po : PassesOwn (model P w) (cxOf (L2.CX P w) P w K mg base N_terms_of "terms_of" (defScope s_terms_of) f cdv A outer s H E).A (cxOf (L2.CX P w) P w K mg base N_terms_of "terms_of" (defScope s_terms_of) f cdv A outer s H E).env (cxOf (L2.CX P w) P w K mg base N_terms_of "terms_of" (defScope s_terms_of) f cdv A outer s H E).xe := passes_of rfl
  obtain ⟨z, rfl, hz, k⟩ := h
  refine ⟨_, (pss_cons (ps_set (i := 1) nd rfl (Or.inl rfl) (pe_lst pa_nil))
    (pss_cons (ps_set (i := 2) nd rfl (Or.inl rfl) pe_int)
    (pss_cons (ps_set (i := 3) nd rfl (Or.inl rfl) pe_str)
    (pss_cons (ps_for po rfl (pi_str (pv 0)) (pg_name (i := 4) nd rfl (Or.inl rfl))
    (pss_one (ps_if (pt_cmpR op_uIn (pv 4) pe_str rfl) (pss_cons (ps_expr (pe_bm PySem.F.plainAttrs_list PySem.F.slot_list_append PySem.F.type_list_append mt_append (pv 1) (pa_cons (pe_tup (pa_cons (pv 2) (pa_cons (pv 3) pa_nil))) pa_nil)))
    (pss_cons (ps_set (i := 2) nd rfl (Or.inl rfl) (pe_ifExp (pt_cmpR (op_uEq hr.r.units) (pv 4) pe_str (nomark _)) pe_int (pe_un un_neg pe_int)))
    (pss_one (ps_set (i := 3) nd rfl (Or.inl rfl) pe_str)))) (pss_one (ps_set (i := 3) nd rfl (Or.inl rfl) (pe_op op_uAdd (pv 3) (pv 4)))))))
    (pss_cons (ps_expr (pe_bm PySem.F.plainAttrs_list PySem.F.slot_list_append PySem.F.type_list_append mt_append (pv 1) (pa_cons (pe_tup (pa_cons (pv 2) (pa_cons (pv 3) pa_nil))) pa_nil)))
    (pss_one (ps_ret (pv 1)))))))), ?_⟩
  walk_at "uk"
  walk_at "uy"
  refine s_szN (Nat.le_of_ble_eq_true rfl) fun p hp => ?_
  walk_at "uy"
  refine loopS (fun i σ' H' => Ex H H' ∧ ∃ (vs : List V) (ts : List (Int × Str)) (sg : Int) (acc : List Nat) (o : Option V), acc.length ≤ i ∧ H' p = some (.lst vs) ∧ vs.length ≤ i ∧ TermsAt H' vs ts ∧ ts ++ termsL sg acc (z.cps.toList.drop i) = termsV z ∧
    σ' = ((((L2.start N_terms_of [.str z]).set 1 (some (.ref p))).set 2 (some (.int sg))).set 3 (some (.str ⟨acc.toArray⟩))).set 4 o) ⟨exN hp, [], [], 1, [], none, Nat.le_refl _, upd_same, Nat.le_refl _, trivial, rfl, rfl⟩ ?_ ?_
  · rintro σ' H' ⟨e, vs, ts, sg, acc, o, la, hv, lv, ht, hs, rfl⟩
    walk_at "uy"
    refine s_tyL (.of hv) ?_
    walk_at "uy"
    refine s_szN (Nat.le_of_ble_eq_true rfl) fun q hq => ?_
    have np : p ≠ q := fun z => by rw [z, hq] at hv; cases hv
    have hv2 : upd H' q (.tup [.int sg, .str ⟨acc.toArray⟩]) p = some (.lst vs) := by rw [upd_ne np]; exact hv
    walk_at "uy"
    refine s_app hv2 (by show _ < 16777216; omega) ?_
    walk_at "uy"
    have lz : z.cps.toList.length = z.length := Array.length_toList
    rw [← lz, List.drop_length] at hs
    have e2 := e.tr (exN (o := .tup [.int sg, .str ⟨acc.toArray⟩]) hq)
    refine k p _ _ (ex_put hp e2) upd_same ?_
    rw [← hs]
    refine terms_add (t := (sg, ⟨acc.toArray⟩)) ?_ ⟨q, rfl, by rw [upd_ne (Ne.symm np)]; exact upd_same⟩
    exact terms_ex (H := H') (p := p) (xs := vs) (fun a o na h => by rw [upd_ne na]; exact exN hq _ _ h) hv ht
  · rintro i c σ' H' hc ⟨e, vs, ts, sg, acc, o, la, hv, lv, ht, hs, rfl⟩
    walk_at "uy"
    refine s_inS ?_
    rw [Bool.false_xor]
    walk_at "uy"
    have hd : z.cps.toList.drop i = c :: z.cps.toList.drop (i + 1) := by
      have hi : i < z.cps.toList.length := by
        rw [Array.length_toList]
        exact (Array.getElem?_eq_some_iff.mp hc).1
      rw [List.drop_eq_getElem_cons hi]
      have : z.cps.toList[i]? = some c := by rw [Array.getElem?_toList]; exact hc
      rw [List.getElem?_eq_getElem hi] at this
      cases this
      rfl
    rw [hd] at hs
    have mem : c ∈ (("*/" : Str)).cps.toList ↔ (c = 42 ∨ c = 47) := by
      show c ∈ [42, 47] ↔ _
      simp
    refine s_ite (fun hm => ?_) (fun hm => ?_)
    · walk_at "uy"
      refine s_tyL (.of hv) ?_
      walk_at "uy"
      refine s_szN (Nat.le_of_ble_eq_true rfl) fun q hq => ?_
      have np : p ≠ q := fun z => by rw [z, hq] at hv; cases hv
      have hv2 : upd H' q (.tup [.int sg, .str ⟨acc.toArray⟩]) p = some (.lst vs) := by rw [upd_ne np]; exact hv
      walk_at "uy"
      refine s_app hv2 (by show _ < 16777216; have : i < z.cps.size := (Array.getElem?_eq_some_iff.mp hc).1; have : z.cps.size ≤ 100000 := hz; omega) ?_
      walk_at "uy"
      have e2 := ex_put (o := .lst (vs ++ [.ref q])) hp (e.tr (exN (o := .tup [.int sg, .str ⟨acc.toArray⟩]) hq))
      have ht2 : TermsAt (upd (upd H' q (.tup [.int sg, .str ⟨acc.toArray⟩])) p (.lst (vs ++ [.ref q]))) (vs ++ [.ref q]) (ts ++ [(sg, ⟨acc.toArray⟩)]) :=
        terms_add (t := (sg, ⟨acc.toArray⟩)) (terms_ex (H := H') (p := p) (xs := vs) (fun a o na h => by rw [upd_ne na]; exact exN hq _ _ h) hv ht) ⟨q, rfl, by rw [upd_ne (Ne.symm np)]; exact upd_same⟩
      have hs2 : ∀ sg' : Int, sg' = (if c = 42 then 1 else -1) → (ts ++ [(sg, ⟨acc.toArray⟩)]) ++ termsL sg' [] (z.cps.toList.drop (i + 1)) = termsV z := fun sg' es => by
        rw [← hs, termsL, if_pos (mem.mp hm), List.append_assoc, es]; rfl
      have lv2 : (vs ++ [V.ref q]).length ≤ i + 1 := by rw [List.length_append]; exact Nat.succ_le_succ lv
      rw [show decide ((⟨#[c]⟩ : Str) = "*") = decide (c = 42) from sign_eq c 42]
      refine s_ite (fun h42 => ?_) (fun h42 => ?_)
      · walk_at "uy"
        exact ⟨e2, _, _, 1, [], _, Nat.zero_le _, upd_same, lv2, ht2, hs2 1 (by rw [if_pos h42]), rfl⟩
      · walk_at "uy"
        exact ⟨e2, _, _, -1, [], _, Nat.zero_le _, upd_same, lv2, ht2, hs2 (-1) (by rw [if_neg h42]), rfl⟩
    · walk_at "uy"
      refine s_addS (by show acc.toArray.size + 1 ≤ 16777216; rw [List.size_toArray]; have : i < z.cps.size := (Array.getElem?_eq_some_iff.mp hc).1; have : z.cps.size ≤ 100000 := hz; omega) ?_
      walk_at "uy"
      refine ⟨e, vs, ts, sg, acc ++ [c], some (.str ⟨#[c]⟩), by rw [List.length_append]; exact Nat.succ_le_succ la, hv, Nat.le_succ_of_le lv, ht, by rw [← hs, termsL, if_neg (fun q => hm (mem.mpr q))], ?_⟩
      rw [show (⟨(acc ++ [c]).toArray⟩ : Str) = ⟨acc.toArray⟩ ++ ⟨#[c]⟩ from TL.ext_tl (by rw [TL.tl_append])]
      rfl
end
end Lw

set_option Elab.async false
set_option linter.all false
set_option maxRecDepth 100000
set_option maxHeartbeats 4000000
namespace Lw
open PySem PySem.Spec L2 Uv
open PyProof.Rows hiding St
local macro_rules | `(tactic| walk_at "umul") => `(tactic| fail)
local macro_rules | `(tactic| walk_at "us1") => `(tactic| first
  | (with_reducible refine s_seq ?_) | (with_reducible refine s_asg ?_) | (with_reducible refine s_gn ?_) | (with_reducible refine s_ret ?_) | (with_reducible refine s_drop ?_) | (with_reducible refine s_if ?_) | (with_reducible refine s_next ?_)
  | (with_reducible refine s_brk ?_) | (with_reducible refine s_cont ?_)
  | ((with_reducible refine' s_var ?hv ?_); (case hv => exact rfl)) | (with_reducible refine s_c ?_) | (with_reducible refine s_op ?_) | (with_reducible refine s_un ?_) | (with_reducible refine s_cb ?_) | (with_reducible refine s_call ?_)
  | (with_reducible refine s_cons ?_) | (with_reducible refine s_nil ?_) | (with_reducible refine s_test ?_) | (with_reducible refine s_tB ?_) | (with_reducible refine s_not ?_) | (with_reducible refine s_and ?_) | (with_reducible refine s_or ?_)
  | (with_reducible refine s_andV ?_) | (with_reducible refine s_orV ?_) | (with_reducible refine s_notV ?_) | (with_reducible refine s_ifE ?_) | (with_reducible refine s_bl ?_) | (with_reducible refine s_iT ?_) | (with_reducible refine s_iF ?_)
  | (with_reducible refine s_I0 ?_) | (with_reducible refine s_U ?_) | (with_reducible refine s_addI ?_) | (with_reducible refine s_eqI ?_) | (with_reducible refine s_eqS ?_) | (with_reducible refine s_eqB ?_) | (with_reducible refine s_neI ?_) | (with_reducible refine s_neS ?_) | (with_reducible refine s_neB ?_)
  | (with_reducible refine s_tupE ?_) | (with_reducible refine s_lstE ?_))
local macro_rules | `(tactic| walk_at "us") => `(tactic| repeat walk_at "us1")
local macro_rules | `(tactic| walk_at "ulen") => `(tactic| (intro vs H Q E h; repeat' (first | (obtain ⟨e, _⟩ := h; subst e; rfl) | (subst h; rfl) | (refine Or.elim h (fun h => ?_) (fun h => ?_)) | (obtain ⟨_, h⟩ := h))))
local macro_rules | `(tactic| walk_at "uk") => `(tactic| (try dsimp only [cxOf, Cx.suite, Cx.tr]))
local macro_rules | `(tactic| walk_at "us2") => `(tactic| first
  | walk_at "us1" | (with_reducible refine s_dput ?_) | ((with_reducible refine' s_mod ?hc ?_); (case hc => first | decide | assumption | omega))
  | (with_reducible refine s_for ?_) | (with_reducible refine s_lc ?_) | (with_reducible refine s_bm ?_) | (with_reducible refine s_ilt ?_) | (with_reducible refine s_izx ?_) | (with_reducible refine s_ienum ?_) | (with_reducible refine s_din ?_) | (with_reducible refine s_dnotin ?_) | (with_reducible refine s_itl ?_) | (with_reducible refine s_itt ?_) | (with_reducible refine s_its ?_) | (with_reducible refine s_itr ?_) | (with_reducible refine s_itr2 ?_) | (with_reducible refine s_disp ?_) | (with_reducible refine s_prn ?_) | (with_reducible refine s_prc ?_) | (with_reducible refine s_m1 ?_) | (with_reducible refine s_isS ?_) | (with_reducible refine s_um1 ?_) | (with_reducible refine s_isB ?_) | (with_reducible refine s_isn ?_) | (with_reducible refine s_notn ?_) | (with_reducible refine s_jd ?_) | (with_reducible refine s_jn ?_) | (with_reducible refine s_jc ?_) | (with_reducible refine s_fmt ?_) | (with_reducible refine s_gc ?_) | (with_reducible refine s_gnil ?_) | (with_reducible refine s_yes ?_) | (with_reducible refine s_raise ?_)
  | ((with_reducible refine' s_pow ?hc ?_); (case hc => exact ⟨by decide, by decide, by decide⟩)) | (with_reducible refine s_int ?_) | (with_reducible refine s_intB ?_) | (with_reducible refine s_strS ?_) | (with_reducible refine s_abs ?_) | (with_reducible refine s_max ?_) | (with_reducible refine s_min ?_) | (with_reducible refine s_gcd ?_)
  | (with_reducible refine s_chain ?_) | (with_reducible refine s_sl ?_) | (with_reducible refine s_noP ?_) | (with_reducible refine s_part ?_) | (with_reducible refine s_exI ?_) 
  | ((with_reducible refine' s_mulI ?hc ?_); (case hc => first | exact Or.inl (Or.inr ⟨by decide, by decide⟩) | exact Or.inl (Or.inl ⟨by decide, by decide⟩) | exact Or.inl (Or.inl ⟨by omega, by omega⟩) | exact Or.inl (Or.inr ⟨by omega, by omega⟩) | walk_at "umul"))
  | ((with_reducible refine' s_ixT ?hc ?hd ?_); (case hc => assumption); (case hd => rfl))
  | ((with_reducible refine' s_lenL ?hc ?_); (case hc => first | assumption | exact SqL.of (by assumption))) | ((with_reducible refine' s_lenT ?hc ?_); (case hc => first | assumption | exact SqT.of (by assumption)))
  | ((with_reducible refine' s_divP ?hc ?hd ?_); (case hc => first | decide | assumption | omega); (case hd => first | decide +kernel | assumption)))
local macro_rules | `(tactic| walk_at "us") => `(tactic| repeat walk_at "us2")
local macro_rules | `(tactic| walk_at "uj") => `(tactic| ((walk_at "us"); with_reducible refine s_J ?_))
local macro_rules | `(tactic| walk_at "ua") => `(tactic| ((walk_at "us"); repeat ((first | (refine s_iF ?_) | (refine s_iT ?_)); (walk_at "us"))))
local macro_rules | `(tactic| walk_at "ub") => `(tactic| walk_at "ua")
local macro_rules | `(tactic| walk_at "ux1") => `(tactic| first
  | walk_at "us2" | ((with_reducible refine' s_ixL ?hc ?hd ?_); (case hc => first | assumption | exact SqL.of (by assumption)); (case hd => rfl)) | ((with_reducible refine' s_ixT ?hc ?hd ?_); (case hc => exact SqT.of (by assumption)); (case hd => rfl))
  | ((with_reducible refine' s_intS ?hc ?hd ?_); (case hc => assumption); (case hd => assumption)) | ((with_reducible refine' s_lenS ?hc ?_); (case hc => assumption)))
local macro_rules | `(tactic| walk_at "ux") => `(tactic| repeat walk_at "ux1")
local macro_rules | `(tactic| walk_at "uy") => `(tactic| ((walk_at "ux"); repeat ((first | (refine s_iF ?_) | (refine s_iT ?_)); (walk_at "ux"))))
local macro_rules | `(tactic| walk_at "uz0") => `(tactic| first
  | (with_reducible refine s_seq ?_) | (with_reducible refine s_asg ?_) | (with_reducible refine s_gn ?_) | (with_reducible refine s_ret ?_) | (with_reducible refine s_drop ?_) | (with_reducible refine s_if ?_) | (with_reducible refine s_next ?_)
  | (with_reducible refine s_brk ?_) | (with_reducible refine s_cont ?_)
  | ((with_reducible refine' s_var ?hv ?_); (case hv => exact rfl)) | (with_reducible refine s_c ?_) | (with_reducible refine s_op ?_) | (with_reducible refine s_un ?_) | (with_reducible refine s_cb ?_) | (with_reducible refine s_call ?_)
  | (with_reducible refine s_cons ?_) | (with_reducible refine s_nil ?_) | (with_reducible refine s_test ?_) | (with_reducible refine s_tB ?_) | (with_reducible refine s_not ?_) | (with_reducible refine s_and ?_) | (with_reducible refine s_or ?_)
  | (with_reducible refine s_andV ?_) | (with_reducible refine s_orV ?_) | (with_reducible refine s_notV ?_) | (with_reducible refine s_ifE ?_) | (with_reducible refine s_bl ?_) | (with_reducible refine s_iT ?_) | (with_reducible refine s_iF ?_)
  | (with_reducible refine s_I0 ?_) | (with_reducible refine s_U ?_) | (with_reducible refine s_addI ?_) | (with_reducible refine s_eqI ?_) | (with_reducible refine s_eqS ?_) | (with_reducible refine s_eqB ?_) | (with_reducible refine s_neI ?_) | (with_reducible refine s_neS ?_) | (with_reducible refine s_neB ?_))
local macro_rules | `(tactic| walk_at "uz2") => `(tactic| first
  | walk_at "uz0" | (with_reducible refine s_dput ?_) | ((with_reducible refine' s_mod ?hc ?_); (case hc => first | decide | assumption | omega))
  | (with_reducible refine s_for ?_) | (with_reducible refine s_lc ?_) | (with_reducible refine s_bm ?_) | (with_reducible refine s_ilt ?_) | (with_reducible refine s_izx ?_) | (with_reducible refine s_ienum ?_) | (with_reducible refine s_din ?_) | (with_reducible refine s_dnotin ?_) | (with_reducible refine s_itl ?_) | (with_reducible refine s_itt ?_) | (with_reducible refine s_its ?_) | (with_reducible refine s_itr ?_) | (with_reducible refine s_itr2 ?_) | (with_reducible refine s_disp ?_) | (with_reducible refine s_prn ?_) | (with_reducible refine s_prc ?_) | (with_reducible refine s_m1 ?_) | (with_reducible refine s_isS ?_) | (with_reducible refine s_um1 ?_) | (with_reducible refine s_isB ?_) | (with_reducible refine s_isn ?_) | (with_reducible refine s_notn ?_) | (with_reducible refine s_jd ?_) | (with_reducible refine s_jn ?_) | (with_reducible refine s_jc ?_) | (with_reducible refine s_fmt ?_) | (with_reducible refine s_gc ?_) | (with_reducible refine s_gnil ?_) | (with_reducible refine s_yes ?_) | (with_reducible refine s_raise ?_)
  | ((with_reducible refine' s_pow ?hc ?_); (case hc => exact ⟨by decide, by decide, by decide⟩)) | (with_reducible refine s_int ?_) | (with_reducible refine s_intB ?_) | (with_reducible refine s_strS ?_) | (with_reducible refine s_abs ?_) | (with_reducible refine s_max ?_) | (with_reducible refine s_min ?_) | (with_reducible refine s_gcd ?_)
  | (with_reducible refine s_chain ?_) | (with_reducible refine s_sl ?_) | (with_reducible refine s_noP ?_) | (with_reducible refine s_part ?_) | (with_reducible refine s_exI ?_) 
  | ((with_reducible refine' s_mulI ?hc ?_); (case hc => first | exact Or.inl (Or.inr ⟨by decide, by decide⟩) | exact Or.inl (Or.inl ⟨by decide, by decide⟩) | exact Or.inl (Or.inl ⟨by omega, by omega⟩) | exact Or.inl (Or.inr ⟨by omega, by omega⟩) | walk_at "umul"))
  | ((with_reducible refine' s_ixT ?hc ?hd ?_); (case hc => assumption); (case hd => rfl))
  | ((with_reducible refine' s_lenL ?hc ?_); (case hc => first | assumption | exact SqL.of (by assumption))) | ((with_reducible refine' s_lenT ?hc ?_); (case hc => first | assumption | exact SqT.of (by assumption)))
  | ((with_reducible refine' s_divP ?hc ?hd ?_); (case hc => first | decide | assumption | omega); (case hd => first | decide +kernel | assumption)))
local macro_rules | `(tactic| walk_at "uz1") => `(tactic| first
  | walk_at "uz2" | ((with_reducible refine' s_ixL ?hc ?hd ?_); (case hc => first | assumption | exact SqL.of (by assumption)); (case hd => rfl)) | ((with_reducible refine' s_ixT ?hc ?hd ?_); (case hc => exact SqT.of (by assumption)); (case hd => rfl))
  | ((with_reducible refine' s_intS ?hc ?hd ?_); (case hc => assumption); (case hd => assumption)) | ((with_reducible refine' s_lenS ?hc ?_); (case hc => assumption)))
local macro_rules | `(tactic| walk_at "uz") => `(tactic| ((repeat walk_at "uz1"); repeat ((first | (refine s_iF ?_) | (refine s_iT ?_)); (repeat walk_at "uz1"))))
def digL : List Nat → Int
  | [c] => if 49 ≤ c ∧ c ≤ 57 then (c : Int) - 48 else 0
  | _ => 0
theorem partition_len (z y : Str) : (Txt.partition z y).2.2.length ≤ z.length := (fact_partition z y).2.2
theorem starts_45 (z : Str) : Txt.startswith z "-" = decide (z.cps.toList.head? = some 45) := by
  obtain ⟨⟨l⟩⟩ := z
  cases l with
  | nil => decide +kernel
  | cons c r =>
    have h2 : Txt.startswith ⟨⟨c :: r⟩⟩ "-" = (#[c] == #[45]) := by
      show (decide (0 + 1 ≤ (⟨c :: r⟩ : Array Nat).size) && ((⟨c :: r⟩ : Array Nat).extract 0 (0 + 1) == #[45])) = _
      have : (⟨c :: r⟩ : Array Nat).extract 0 (0 + 1) = #[c] := by
        apply Array.toList_inj.mp
        simp
      rw [this]
      simp
    rw [h2]
    by_cases e : c = 45 <;> simp [e]
theorem tl_cut1 (z : Str) : (cutS z (some 1) none).cps.toList = z.cps.toList.drop 1 := by
  have ll := TL.len_tl z
  show ((z.cps.toList.drop (HT.sIx z.length 0 (some 1))).take (HT.sIx z.length z.length none - HT.sIx z.length 0 (some 1))).toArray.toList = _
  rw [HT.sIx_none, show HT.sIx z.length 0 (some 1) = min 1 z.length from HT.sIx_nat _ _ 1]
  show (z.cps.toList.drop (min 1 z.length)).take (z.length - min 1 z.length) = _
  rw [List.take_of_length_le (by rw [List.length_drop]; show z.cps.toList.length - _ ≤ _; rw [← ll]; omega)]
  by_cases h : 1 ≤ z.length
  · rw [Nat.min_eq_left h]
  · rw [List.drop_eq_nil_of_le (by rw [← ll]; omega), List.drop_eq_nil_of_le (by rw [← ll]; omega)]
theorem fig_minus {z : Str} (h : z.cps.toList.head? = some 45) : figL z.cps.toList = -1 * digL (cutS z (some 1) none).cps.toList := by
  rw [tl_cut1]
  match hz : z.cps.toList with
  | [] => rw [hz] at h; cases h
  | [c] => rw [hz] at h; cases h; rfl
  | [m, c] =>
    rw [hz] at h
    cases h
    show (if 45 = 45 ∧ 49 ≤ c ∧ c ≤ 57 then _ else _) = -1 * (if 49 ≤ c ∧ c ≤ 57 then _ else _)
    split <;> split <;> omega
  | _ :: _ :: _ :: _ => rfl
theorem fig_plain {z : Str} (h : ¬ z.cps.toList.head? = some 45) : figL z.cps.toList = 1 * digL z.cps.toList := by
  match hz : z.cps.toList with
  | [] => rfl
  | [c] => show _ = 1 * (if 49 ≤ c ∧ c ≤ 57 then _ else _); rw [Int.one_mul]; rfl
  | [m, c] =>
    rw [hz] at h
    show (if m = 45 ∧ 49 ≤ c ∧ c ≤ 57 then _ else _) = 1 * 0
    rw [if_neg (fun q => h (by rw [q.1]; rfl))]
    rfl
  | _ :: _ :: _ :: _ => rfl
section
variable {P : Program} {w : World} {K : PySem.W.Frag} {mg : Str → Option Value} {base : Heap}
variable {cE cH cU cW : Addr}
theorem ok_power_of (T : Tp P K mg cE cH cU cW)
    {f : Addr} {fd : FuncData} {dvs : List V} (F : FunD K "power_of" "power_of" (defArgs s_power_of) (defBody s_power_of) (defScope s_power_of) dvs [] f fd) : FnG P w K mg base 1 f fd P_power_of (spPower K) := by
  refine fng F sc_power_of (by walk_at "ulen") (fun cdv A outer s H vs Q E hr0 hg0 h => ?_)
  have hr : Rm 0 (A.deeper (envOfC "power_of" (defScope s_power_of) s.heap.objs.size f cdv)) := ⟨hr0, hg0⟩
  have nd : N_power_of.Nodup := sc_power_of.nd
  obtain ⟨z, rfl, hz, k⟩ := h
  refine ⟨_, (pss_cons (ps_asg (pe_m1 PySem.F.slot_str_partition PySem.F.type_str_partition mt_uPart (pv 0) pe_str) (pg_tup rfl (pgs_cons (pg_name (i := 1) nd rfl (Or.inl rfl)) (pgs_cons (pg_name (i := 2) nd rfl (Or.inl rfl)) (pgs_cons (pg_name (i := 3) nd rfl (Or.inl rfl)) pgs_nil)))))
    (pss_cons (ps_if (pt_cmpR (op_uEq hr.r.units) (pv 2) pe_str (nomark _)) (pss_one (ps_ret (pe_tup (pa_cons (pv 1) (pa_cons pe_int pa_nil))))) pss_nil)
    (pss_cons (ps_set (i := 4) nd rfl (Or.inl rfl) pe_int)
    (pss_consJ (ps_if (pt_val (pe_m1 PySem.F.slot_str_startswith PySem.F.type_str_startswith mt_uSw (pv 3) pe_str)) (pss_cons (ps_set (i := 4) nd rfl (Or.inl rfl) (pe_un un_neg pe_int))
    (pss_one (ps_set (i := 3) nd rfl (Or.inl rfl) (pe_slice sl_u (pv 3) (po_some pe_int) po_none)))) pss_nil)
    (pss_cons (ps_if (PW.pt (pw_or (pt_cmpR (op_uNe hr.r.units) (pe_callB call_uLen (by rfl) T.len b_len (pa_cons (pv 3) pa_nil)) pe_int (nomark _)) (pw_or1 (pt_cmpR op_uNotIn (pv 3) (pe_gS T.g_POWERS) rfl)))) (pss_one (ps_ret (pe_tup (pa_cons (pv 1) (pa_cons pe_int pa_nil))))) pss_nil)
    (pss_one (ps_ret (pe_tup (pa_cons (pv 1) (pa_cons (pe_op op_uMul (pv 4) (pe_callTy call_uInt (by rfl) T.int b_int (pa_cons (pv 3) pa_nil))) pa_nil)))))))))), ?_⟩
  walk_at "uk"
  walk_at "uy"
  refine s_upart (by decide +kernel) (by show _ ≤ 16777216; omega) fun p hp => ?_
  refine s_gt (.of upd_same) rfl ?_
  walk_at "uy"
  refine s_ite (fun hm => ?_) (fun hm => ?_)
  · walk_at "uy"
    refine s_szN (Nat.le_of_ble_eq_true rfl) fun q hq => ?_
    have e := (exN hp).tr (exN (o := .tup [.str (Txt.partition z "^").1, .int 1]) hq)
    refine k q _ e ?_
    unfold powV
    rw [if_pos hm]
    exact upd_same
  · walk_at "uj"
    have pl := partition_len z "^"
    refine s_seqJ (fun σ' H' => ∃ (sg : Int) (y : Str) (p1 : Addr), Ex H H' ∧ y.length ≤ 100000 ∧ (sg = 1 ∨ sg = -1) ∧ figL (Txt.partition z "^").2.2.cps.toList = sg * digL y.cps.toList ∧
      σ' = (((((L2.start N_power_of [.str z]).set 1 (some (.str (Txt.partition z "^").1))).set 2 (some (.str (Txt.partition z "^").2.1))).set 3 (some (.str y))).set 4 (some (.int sg)))) ?_ (fun R hR => ?_)
    · rintro σ' H' ⟨sg, y, p1, e, ly, hsg, hf, rfl⟩
      walk_at "uy"
      refine s_lenS (by show _ ≤ 16777216; omega) ?_
      walk_at "uy"
      rw [show powV z = ((Txt.partition z "^").1, sg * digL y.cps.toList) from by unfold powV; rw [if_neg hm, ← hf]] at k
      have ty := TL.len_tl y
      refine s_iteN (fun h1 => ?_) (fun h1 => ?_)
      · walk_at "uy"
        refine s_szN (Nat.le_of_ble_eq_true rfl) fun q hq => k q _ (e.tr (exN hq)) ?_
        have : digL y.cps.toList = 0 := by
          match hy : y.cps.toList with
          | [] => rfl
          | [c] => rw [TL.tl, hy] at ty; exact absurd (show (y.length : Int) = 1 by rw [ty]; rfl) h1
          | _ :: _ :: _ => rfl
        rw [this, Int.mul_zero]
        exact upd_same
      · obtain ⟨c, hc⟩ : ∃ c, y = ⟨#[c]⟩ := by
          match hy : y.cps.toList with
          | [] => rw [TL.tl, hy] at ty; simp at ty; omega
          | [c] => exact ⟨c, TL.ext_tl hy⟩
          | _ :: _ :: _ => rw [TL.tl, hy] at ty; simp at ty; omega
        subst hc
        walk_at "uy"
        refine s_inS ?_
        walk_at "uy"
        have mem : c ∈ (("123456789" : Str)).cps.toList ↔ (49 ≤ c ∧ c ≤ 57) := by
          show c ∈ [49, 50, 51, 52, 53, 54, 55, 56, 57] ↔ _
          simp only [List.mem_cons, List.not_mem_nil, or_false]
          omega
        by_cases hd : c ∈ (("123456789" : Str)).cps.toList
        · rw [decide_eq_true hd]
          walk_at "uy"
          have hd' := mem.mp hd
          refine s_intS (n := (c : Int) - 48) ?_ (by show 1 ≤ 640; decide) ?_
          · rw [PySem.intText_digits (fun d h => by rw [List.mem_singleton.mp h]; omega) (by simp) (by show 1 ≤ _; decide)]
            show some ((((0 * 10 + (c - 48) : Nat) : Int))) = _
            congr 1
            omega
          walk_at "uy"
          refine s_szN (Nat.le_of_ble_eq_true rfl) fun q hq => k q _ (e.tr (exN hq)) ?_
          rw [show digL (⟨#[c]⟩ : Str).cps.toList = (c : Int) - 48 from if_pos hd']
          exact upd_same
        · rw [decide_eq_false hd]
          walk_at "uy"
          refine s_szN (Nat.le_of_ble_eq_true rfl) fun q hq => k q _ (e.tr (exN hq)) ?_
          rw [show digL (⟨#[c]⟩ : Str).cps.toList = 0 from if_neg (fun q => hd (mem.mpr q)), Int.mul_zero]
          exact upd_same
    · walk_at "uy"
      rw [starts_45]
      refine s_ite (fun h45 => ?_) (fun h45 => ?_)
      · walk_at "uy"
        refine s_slS (by show _ ≤ 16777216; omega) ?_
        walk_at "uy"
        have lc := cutS_length (Txt.partition z "^").2.2 (some 1) none
        exact hR _ _ ⟨-1, _, p, exN hp, by omega, .inr rfl, fig_minus h45, rfl⟩
      · walk_at "uy"
        exact hR _ _ ⟨1, _, p, exN hp, by omega, .inl rfl, fig_plain h45, rfl⟩
end
end Lw

set_option Elab.async false
set_option linter.all false
set_option maxRecDepth 100000
set_option maxHeartbeats 4000000
namespace Lw
open PySem PySem.Spec L2 Uv
open PyProof.Rows hiding St
local macro_rules | `(tactic| walk_at "umul") => `(tactic| fail)
local macro_rules | `(tactic| walk_at "us1") => `(tactic| first
  | (with_reducible refine s_seq ?_) | (with_reducible refine s_asg ?_) | (with_reducible refine s_gn ?_) | (with_reducible refine s_ret ?_) | (with_reducible refine s_drop ?_) | (with_reducible refine s_if ?_) | (with_reducible refine s_next ?_)
  | (with_reducible refine s_brk ?_) | (with_reducible refine s_cont ?_)
  | ((with_reducible refine' s_var ?hv ?_); (case hv => exact rfl)) | (with_reducible refine s_c ?_) | (with_reducible refine s_op ?_) | (with_reducible refine s_un ?_) | (with_reducible refine s_cb ?_) | (with_reducible refine s_call ?_)
  | (with_reducible refine s_cons ?_) | (with_reducible refine s_nil ?_) | (with_reducible refine s_test ?_) | (with_reducible refine s_tB ?_) | (with_reducible refine s_not ?_) | (with_reducible refine s_and ?_) | (with_reducible refine s_or ?_)
  | (with_reducible refine s_andV ?_) | (with_reducible refine s_orV ?_) | (with_reducible refine s_notV ?_) | (with_reducible refine s_ifE ?_) | (with_reducible refine s_bl ?_) | (with_reducible refine s_iT ?_) | (with_reducible refine s_iF ?_)
  | (with_reducible refine s_I0 ?_) | (with_reducible refine s_U ?_) | (with_reducible refine s_addI ?_) | (with_reducible refine s_eqI ?_) | (with_reducible refine s_eqS ?_) | (with_reducible refine s_eqB ?_) | (with_reducible refine s_neI ?_) | (with_reducible refine s_neS ?_) | (with_reducible refine s_neB ?_)
  | (with_reducible refine s_tupE ?_) | (with_reducible refine s_lstE ?_))
local macro_rules | `(tactic| walk_at "us") => `(tactic| repeat walk_at "us1")
local macro_rules | `(tactic| walk_at "ulen") => `(tactic| (intro vs H Q E h; repeat' (first | (obtain ⟨e, _⟩ := h; subst e; rfl) | (subst h; rfl) | (refine Or.elim h (fun h => ?_) (fun h => ?_)) | (obtain ⟨_, h⟩ := h))))
local macro_rules | `(tactic| walk_at "uk") => `(tactic| (try dsimp only [cxOf, Cx.suite, Cx.tr]))
local macro_rules | `(tactic| walk_at "us2") => `(tactic| first
  | walk_at "us1" | (with_reducible refine s_dput ?_) | ((with_reducible refine' s_mod ?hc ?_); (case hc => first | decide | assumption | omega))
  | (with_reducible refine s_for ?_) | (with_reducible refine s_lc ?_) | (with_reducible refine s_bm ?_) | (with_reducible refine s_ilt ?_) | (with_reducible refine s_izx ?_) | (with_reducible refine s_ienum ?_) | (with_reducible refine s_din ?_) | (with_reducible refine s_dnotin ?_) | (with_reducible refine s_itl ?_) | (with_reducible refine s_itt ?_) | (with_reducible refine s_its ?_) | (with_reducible refine s_itr ?_) | (with_reducible refine s_itr2 ?_) | (with_reducible refine s_disp ?_) | (with_reducible refine s_prn ?_) | (with_reducible refine s_prc ?_) | (with_reducible refine s_m1 ?_) | (with_reducible refine s_isS ?_) | (with_reducible refine s_um1 ?_) | (with_reducible refine s_isB ?_) | (with_reducible refine s_isn ?_) | (with_reducible refine s_notn ?_) | (with_reducible refine s_jd ?_) | (with_reducible refine s_jn ?_) | (with_reducible refine s_jc ?_) | (with_reducible refine s_fmt ?_) | (with_reducible refine s_gc ?_) | (with_reducible refine s_gnil ?_) | (with_reducible refine s_yes ?_) | (with_reducible refine s_raise ?_)
  | ((with_reducible refine' s_pow ?hc ?_); (case hc => exact ⟨by decide, by decide, by decide⟩)) | (with_reducible refine s_int ?_) | (with_reducible refine s_intB ?_) | (with_reducible refine s_strS ?_) | (with_reducible refine s_abs ?_) | (with_reducible refine s_max ?_) | (with_reducible refine s_min ?_) | (with_reducible refine s_gcd ?_)
  | (with_reducible refine s_chain ?_) | (with_reducible refine s_sl ?_) | (with_reducible refine s_noP ?_) | (with_reducible refine s_part ?_) | (with_reducible refine s_exI ?_) 
  | ((with_reducible refine' s_mulI ?hc ?_); (case hc => first | exact Or.inl (Or.inr ⟨by decide, by decide⟩) | exact Or.inl (Or.inl ⟨by decide, by decide⟩) | exact Or.inl (Or.inl ⟨by omega, by omega⟩) | exact Or.inl (Or.inr ⟨by omega, by omega⟩) | walk_at "umul"))
  | ((with_reducible refine' s_ixT ?hc ?hd ?_); (case hc => assumption); (case hd => rfl))
  | ((with_reducible refine' s_lenL ?hc ?_); (case hc => first | assumption | exact SqL.of (by assumption))) | ((with_reducible refine' s_lenT ?hc ?_); (case hc => first | assumption | exact SqT.of (by assumption)))
  | ((with_reducible refine' s_divP ?hc ?hd ?_); (case hc => first | decide | assumption | omega); (case hd => first | decide +kernel | assumption)))
local macro_rules | `(tactic| walk_at "us") => `(tactic| repeat walk_at "us2")
local macro_rules | `(tactic| walk_at "uj") => `(tactic| ((walk_at "us"); with_reducible refine s_J ?_))
local macro_rules | `(tactic| walk_at "ua") => `(tactic| ((walk_at "us"); repeat ((with_reducible refine s_ick ?_); (first | (refine s_iF ?_) | (refine s_iT ?_)); (walk_at "us"))))
local macro_rules | `(tactic| walk_at "ub") => `(tactic| walk_at "ua")
local macro_rules | `(tactic| walk_at "ux1") => `(tactic| first
  | walk_at "us2" | ((with_reducible refine' s_ixL ?hc ?hd ?_); (case hc => first | assumption | exact SqL.of (by assumption)); (case hd => rfl)) | ((with_reducible refine' s_ixT ?hc ?hd ?_); (case hc => exact SqT.of (by assumption)); (case hd => rfl))
  | ((with_reducible refine' s_intS ?hc ?hd ?_); (case hc => assumption); (case hd => assumption)) | ((with_reducible refine' s_lenS ?hc ?_); (case hc => assumption)))
local macro_rules | `(tactic| walk_at "ux") => `(tactic| repeat walk_at "ux1")
local macro_rules | `(tactic| walk_at "uy") => `(tactic| ((walk_at "ux"); repeat ((with_reducible refine s_ick ?_); (first | (refine s_iF ?_) | (refine s_iT ?_)); (walk_at "ux"))))
local macro_rules | `(tactic| walk_at "uz0") => `(tactic| first
  | (with_reducible refine s_seq ?_) | (with_reducible refine s_asg ?_) | (with_reducible refine s_gn ?_) | (with_reducible refine s_ret ?_) | (with_reducible refine s_drop ?_) | (with_reducible refine s_if ?_) | (with_reducible refine s_next ?_)
  | (with_reducible refine s_brk ?_) | (with_reducible refine s_cont ?_)
  | ((with_reducible refine' s_var ?hv ?_); (case hv => exact rfl)) | (with_reducible refine s_c ?_) | (with_reducible refine s_op ?_) | (with_reducible refine s_un ?_) | (with_reducible refine s_cb ?_) | (with_reducible refine s_call ?_)
  | (with_reducible refine s_cons ?_) | (with_reducible refine s_nil ?_) | (with_reducible refine s_test ?_) | (with_reducible refine s_tB ?_) | (with_reducible refine s_not ?_) | (with_reducible refine s_and ?_) | (with_reducible refine s_or ?_)
  | (with_reducible refine s_andV ?_) | (with_reducible refine s_orV ?_) | (with_reducible refine s_notV ?_) | (with_reducible refine s_ifE ?_) | (with_reducible refine s_bl ?_) | (with_reducible refine s_iT ?_) | (with_reducible refine s_iF ?_)
  | (with_reducible refine s_I0 ?_) | (with_reducible refine s_U ?_) | (with_reducible refine s_addI ?_) | (with_reducible refine s_eqI ?_) | (with_reducible refine s_eqS ?_) | (with_reducible refine s_eqB ?_) | (with_reducible refine s_neI ?_) | (with_reducible refine s_neS ?_) | (with_reducible refine s_neB ?_))
local macro_rules | `(tactic| walk_at "uz2") => `(tactic| first
  | walk_at "uz0" | (with_reducible refine s_dput ?_) | ((with_reducible refine' s_mod ?hc ?_); (case hc => first | decide | assumption | omega))
  | (with_reducible refine s_for ?_) | (with_reducible refine s_lc ?_) | (with_reducible refine s_bm ?_) | (with_reducible refine s_ilt ?_) | (with_reducible refine s_izx ?_) | (with_reducible refine s_ienum ?_) | (with_reducible refine s_din ?_) | (with_reducible refine s_dnotin ?_) | (with_reducible refine s_itl ?_) | (with_reducible refine s_itt ?_) | (with_reducible refine s_its ?_) | (with_reducible refine s_itr ?_) | (with_reducible refine s_itr2 ?_) | (with_reducible refine s_disp ?_) | (with_reducible refine s_prn ?_) | (with_reducible refine s_prc ?_) | (with_reducible refine s_m1 ?_) | (with_reducible refine s_isS ?_) | (with_reducible refine s_um1 ?_) | (with_reducible refine s_isB ?_) | (with_reducible refine s_isn ?_) | (with_reducible refine s_notn ?_) | (with_reducible refine s_jd ?_) | (with_reducible refine s_jn ?_) | (with_reducible refine s_jc ?_) | (with_reducible refine s_fmt ?_) | (with_reducible refine s_gc ?_) | (with_reducible refine s_gnil ?_) | (with_reducible refine s_yes ?_) | (with_reducible refine s_raise ?_)
  | ((with_reducible refine' s_pow ?hc ?_); (case hc => exact ⟨by decide, by decide, by decide⟩)) | (with_reducible refine s_int ?_) | (with_reducible refine s_intB ?_) | (with_reducible refine s_strS ?_) | (with_reducible refine s_abs ?_) | (with_reducible refine s_max ?_) | (with_reducible refine s_min ?_) | (with_reducible refine s_gcd ?_)
  | (with_reducible refine s_chain ?_) | (with_reducible refine s_sl ?_) | (with_reducible refine s_noP ?_) | (with_reducible refine s_part ?_) | (with_reducible refine s_exI ?_) 
  | ((with_reducible refine' s_mulI ?hc ?_); (case hc => first | exact Or.inl (Or.inr ⟨by decide, by decide⟩) | exact Or.inl (Or.inl ⟨by decide, by decide⟩) | exact Or.inl (Or.inl ⟨by omega, by omega⟩) | exact Or.inl (Or.inr ⟨by omega, by omega⟩) | walk_at "umul"))
  | ((with_reducible refine' s_ixT ?hc ?hd ?_); (case hc => assumption); (case hd => rfl))
  | ((with_reducible refine' s_lenL ?hc ?_); (case hc => first | assumption | exact SqL.of (by assumption))) | ((with_reducible refine' s_lenT ?hc ?_); (case hc => first | assumption | exact SqT.of (by assumption)))
  | ((with_reducible refine' s_divP ?hc ?hd ?_); (case hc => first | decide | assumption | omega); (case hd => first | decide +kernel | assumption)))
local macro_rules | `(tactic| walk_at "uz1") => `(tactic| first
  | walk_at "uz2" | ((with_reducible refine' s_ixL ?hc ?hd ?_); (case hc => first | assumption | exact SqL.of (by assumption)); (case hd => rfl)) | ((with_reducible refine' s_ixT ?hc ?hd ?_); (case hc => exact SqT.of (by assumption)); (case hd => rfl))
  | ((with_reducible refine' s_intS ?hc ?hd ?_); (case hc => assumption); (case hd => assumption)) | ((with_reducible refine' s_lenS ?hc ?_); (case hc => assumption)))
local macro_rules | `(tactic| walk_at "uz") => `(tactic| ((repeat walk_at "uz1"); repeat ((with_reducible refine s_ick ?_); (first | (refine s_iF ?_) | (refine s_iT ?_)); (repeat walk_at "uz1"))))
theorem TermsAt.get {H : Hp} : ∀ {vs : List V} {ts : List (Int × Str)} {i : Nat} {v : V}, TermsAt H vs ts → vs[i]? = some v → ∃ s t a, ts[i]? = some (s, t) ∧ v = .ref a ∧ H a = some (.tup [.int s, .str t])
  | [], [], _, _, _, h => by simp at h
  | v :: vs, t :: ts, 0, w, ⟨⟨a, e, h1⟩, _⟩, h => by cases h; exact ⟨t.1, t.2, a, rfl, e, h1⟩
  | v :: vs, t :: ts, i + 1, w, ⟨_, h2⟩, h => by
    obtain ⟨s, t', a, q⟩ := TermsAt.get (i := i) h2 (by simpa using h)
    exact ⟨s, t', a, by simpa using q.1, q.2⟩
theorem TermsAt.len {H : Hp} : ∀ {vs : List V} {ts : List (Int × Str)}, TermsAt H vs ts → vs.length = ts.length
  | [], [], _ => rfl
  | v :: vs, t :: ts, ⟨_, h2⟩ => congrArg (· + 1) (TermsAt.len h2)
theorem TermsAt.mono {H H' : Hp} (e : ∀ a xs, H a = some (.tup xs) → H' a = some (.tup xs)) : ∀ {vs : List V} {ts : List (Int × Str)}, TermsAt H vs ts → TermsAt H' vs ts
  | [], [], _ => trivial
  | v :: vs, t :: ts, ⟨⟨a, ha, h1⟩, h2⟩ => ⟨⟨a, ha, e a _ h1⟩, TermsAt.mono e h2⟩
section
variable {P : Program} {w : World} {K : PySem.W.Frag} {mg : Str → Option Value} {base : Heap}
variable {cE cH cU cW : Addr}
theorem ok_read_product (T : Tp P K mg cE cH cU cW)
    (c_is_dimension : Cal P w K mg base 2 "is_dimension" P_is_dimension [] (spIsDim K))
    (c_power_of : Cal P w K mg base 1 "power_of" P_power_of [] (spPower K))
    (c_terms_of : Cal P w K mg base 1 "terms_of" P_terms_of [] (spTerms))
    {f : Addr} {fd : FuncData} {dvs : List V} (F : FunD K "read_product" "read_product" (defArgs s_read_product) (defBody s_read_product) (defScope s_read_product) dvs [] f fd) : FnG P w K mg base 3 f fd P_read_product (spRead K) := by
  refine fng F sc_read_product (by walk_at "ulen") (fun cdv A outer s H vs Q E hr0 hg0 h => ?_)
  have hr : Rm 2 (A.deeper (envOfC "read_product" (defScope s_read_product) s.heap.objs.size f cdv)) := ⟨hr0, hg0⟩
  have nd : N_read_product.Nodup := sc_read_product.nd
  have po : PassesOwn (model P w) (cxOf (L2.CX P w) P w K mg base N_read_product "read_product" (defScope s_read_product) f cdv A outer s H E).A (cxOf (L2.CX P w) P w K mg base N_read_product "read_product" (defScope s_read_product) f cdv A outer s H E).env (cxOf (L2.CX P w) P w K mg base N_read_product "read_product" (defScope s_read_product) f cdv A outer s H E).xe := passes_of rfl
  obtain ⟨z, p, ns, rfl, hz, hp, nd1, h100, k⟩ := h
  refine ⟨_, (pss_cons (ps_if (PW.pt (pw_or (pt_not (pt_val (pe_callB call_isi (by rfl) T.isinstance b_isinstance (pa_cons (pv 0) (pa_cons (pe_bltn (v := .ty "str") (by rfl) T.str b_str rfl) pa_nil))))) (pw_or1 (pt_cmpR op_gt (pe_callB call_uLen (by rfl) T.len b_len (pa_cons (pv 0) pa_nil)) (pe_gI T.g_SIGNS) (nomark _))))) (pss_one (ps_ret pe_non)) pss_nil)
    (pss_cons (ps_set (i := 2) nd rfl (Or.inr rfl) pe_dnewK)
    (pss_cons (ps_for po rfl (Zx.pi_lt (pv 1)) (pg_name (i := 3) nd rfl (Or.inl rfl))
    (pss_one (ps_dput (hu_of hr.r) (pv 2) (pv 3) pe_int rfl)))
    (pss_cons (ps_for po rfl (pi_enum (by rfl) T.enumerate (pa_cons (pe_c (E := En) c_terms_of (hr.mono (by decide)) paN (pa_cons (pv 0) pa_nil)) pa_nil)) (pg_tup rfl (pgs_cons (pg_name (i := 4) nd rfl (Or.inl rfl)) (pgs_cons (pg_tup rfl (pgs_cons (pg_name (i := 5) nd rfl (Or.inl rfl)) (pgs_cons (pg_name (i := 6) nd rfl (Or.inl rfl)) pgs_nil))) pgs_nil)))
    (pss_consJ (ps_if (PW.pt (pw_and (pt_cmpR (op_uEq hr.r.units) (pv 4) pe_int (nomark _)) (pw_and1 (pt_cmpR (op_uEq hr.r.units) (pv 6) pe_str (nomark _))))) (pss_one ps_continue) pss_nil)
    (pss_cons (ps_asg (pe_c (E := En) c_power_of (hr.mono (by decide)) paN (pa_cons (pv 6) pa_nil)) (pg_tup rfl (pgs_cons (pg_name (i := 3) nd rfl (Or.inl rfl)) (pgs_cons (pg_name (i := 7) nd rfl (Or.inl rfl)) pgs_nil))))
    (pss_cons (ps_if (PW.pt (pw_or (pt_cmpR (op_uEq hr.r.units) (pv 7) pe_int (nomark _)) (pw_or1 (pt_cmp (pc_dnotin (hu_of hr.r) (pv 3) (pv 2)))))) (pss_one (ps_ret pe_non)) pss_nil)
    (pss_one (ps_dput (hu_of hr.r) (pv 2) (pv 3) (pe_op op_uAdd (pe_dget (hu_of hr.r) (pv 2) (pv 3) (fun _ _ => rfl)) (pe_op op_uMul (pv 5) (pv 7))) rfl))))))
    (pss_cons (ps_set (i := 8) nd rfl (Or.inl rfl) (pe_callTy call_uTup (by rfl) T.tuple b_tuple (pa_cons (pe_lc (own := [("name", 3)]) (g := gName 3) (by rfl) nd (Zx.pi_lt (pv 1)) (blkOk_by (own := [("name", 3)]) (N := N_read_product) (sc := defScope s_read_product) (by decide +kernel)) (fun s_ H_ C_ cl_ fp_ => pg_name (i := 3) nd rfl (Or.inl rfl)) (fun s_ H_ C_ cl_ fp_ => pts_nil) (fun s_ H_ C_ cl_ fp_ => (pe_dget (hu_of hr.r) (pv 2) (pv 3) (fun _ _ => rfl)))) pa_nil)))
    (pss_cons (ps_if (pt_not (pt_val (pe_c (E := En) c_is_dimension (hr.mono (by decide)) paN (pa_cons (pv 8) (pa_cons (pe_callB call_uLen (by rfl) T.len b_len (pa_cons (pv 8) pa_nil)) pa_nil))))) (pss_one (ps_ret pe_non)) pss_nil)
    (pss_one (ps_ret (pv 8))))))))), ?_⟩
  walk_at "uk"
  walk_at "uy"
  refine s_isStr (.str z) ?_
  walk_at "uy"
  refine s_lenS (by show _ ≤ 16777216; omega) ?_
  walk_at "uy"
  refine s_ite (fun h200 => ?_) (fun h200 => ?_)
  · walk_at "uy"
    refine k .non H (exR H) (.inl ⟨?_, rfl⟩)
    unfold readV
    rw [if_pos (by omega)]
  walk_at "uy"
  refine s_dnew fun s hs => ?_
  walk_at "uy"
  have e0 := exN (o := .dK []) hs
  have hp0 := hp.kx e0.kx
  have d0 : Dx s (upd H s (.dK [])) (upd H s (.dK [])) := Dx.refl upd_same
  have hs0 : upd H s (.dK []) s = some (.dK (sumsK (ns.take 0) fun _ => 0)) := upd_same
  generalize upd H s (.dK []) = H0 at e0 hp0 d0 hs0
  refine loopA hp0 (fun i σ' H' => Dx s H0 H' ∧ H' s = some (.dK (sumsK (ns.take i) fun _ => 0)) ∧ ∃ o, σ' = [some (.str z), some (.ref p), (some (.ref s)), o, none, none, none, none, none]) ⟨d0, hs0, none, rfl⟩ (fun i σ' H' h => h.1.kx _ _) ?_ ?_
  · rintro σ' H1 ⟨d1, hs1, o, rfl⟩
    rw [List.length_map, List.take_length] at hs1
    walk_at "uy"
    refine ⟨z, rfl, hz, fun q vs H2 e2 hq ht => ?_⟩
    walk_at "uy"
    have d2 := d1.ex e2
    have hs2 := e2 _ _ hs1
    have dq : Dx s H2 H2 := Dx.refl hs2
    have tl := ht.len
    refine loopE (fun i σ' H' => Dx s H2 H' ∧ ∃ (f : Str → Int) (o3 o4 o5 o6 o7 : Option V), H' s = some (.dK (sumsK ns f)) ∧ rdL ns i ((termsV z).drop i) f = rdL ns 0 (termsV z) (fun _ => 0) ∧
      σ' = [some (.str z), some (.ref p), (some (.ref s)), o3, o4, o5, o6, o7, none]) ⟨dq, _, _, none, none, none, none, hs2, rfl, rfl⟩ (fun i σ' H' h => (h.1.kx _ _).1 (.of hq)) ?_ ?_
    · rintro σ' H3 ⟨d3, f, o3, o4, o5, o6, o7, hs3, hr, rfl⟩
      walk_at "uy"
      have e3 : Ex H H3 := (d2.tr d3).from hs e0
      have hr2 : rdL ns 0 (termsV z) (fun _ => 0) = some f := by
        rw [← hr, List.drop_eq_nil_of_le (by omega), rdL]
      have hv : readV z ns = if inR (ns.map f) = true then some (ns.map f) else none := by
        unfold readV
        rw [if_neg (by omega), hr2]
      refine lcA (hp0.kx (d2.tr d3).kx) (fun D i acc H' => Ex H3 H' ∧ H' D = some (.lst acc) ∧ acc = ((ns.take i).map f).map V.int) (fun D n => ⟨exN n, upd_same, rfl⟩) (fun D i acc H' _ h => h.1.kx) ?_ ?_
      · rintro D acc H4 nD ⟨e4, hD, rfl⟩
        rw [List.length_map, List.take_length] at hD
        walk_at "uy"
        refine s_tupOfL (.of hD) fun r H5 e5 hr5 => ?_
        walk_at "uy"
        refine ⟨.ref r, _, _, rfl, tupI_dp hr5, (by show (List.map PyData.int _).length ≤ 1000; rw [List.length_map, List.length_map]; omega), fun H6 e6 => ?_⟩
        rw [List.length_map, isDim_ints]
        have e7 := ((e3.tr e4).tr e5).tr e6
        refine s_if1 (x := inR (ns.map f)) (fun z => ?_) (fun z => ?_)
        · rw [z]
          walk_at "uy"
          exact k _ H6 e7 (.inr ⟨ns.map f, by rw [hv, if_pos z], r, rfl, Ex.st hr5 e6⟩)
        · rw [z]
          walk_at "uy"
          exact k _ H6 e7 (.inl ⟨by rw [hv, if_neg (by rw [z]; exact Bool.false_ne_true)], rfl⟩)
      · rintro D i x acc H4 nD hx ⟨e4, hD, rfl⟩
        obtain ⟨n, hn, rfl⟩ := str_get hx
        refine ⟨rfl, s_yes (s_iT ?_)⟩
        refine s_dget ?_
        walk_at "uy"
        refine ⟨s, _, rfl, dget_s (e4 _ _ hs3) (by rw [valV_sums, if_pos (List.mem_of_getElem? hn)]), ?_⟩
        refine ⟨_, hD, by rw [List.length_map, List.length_map, List.length_take]; show _ < 16777216; omega, _, ex_put nD e4, upd_same, ?_⟩
        rw [List.take_add_one, hn, List.map_append, List.map_append]
        rfl
    · rintro i x T σ' H3 hx ⟨d3, f, o3, o4, o5, o6, o7, hs3, hr, rfl⟩ nT
      obtain ⟨sg, t, a, ht2, rfl, ha⟩ := ht.get hx
      have hsg := terms_sgn _ 1 [] (.inl rfl) _ (List.mem_of_getElem? ht2)
      have htl := terms_len _ 1 [] _ (List.mem_of_getElem? ht2)
      rw [rd_one ht2] at hr
      refine s_gt (.of upd_same) rfl ?_
      walk_at "uy"
      have e4 := exN (o := .tup [.int (i : Nat), .ref a]) nT
      have d4 := d3.ex e4
      have hs4 := e4 _ _ hs3
      have ha4 := e4 _ _ (d3.at ha fun _ z => by cases z)
      generalize upd H3 T (.tup [.int (i : Nat), .ref a]) = H4 at e4 d4 hs4 ha4
      refine s_gt (.of ha4) rfl ?_
      walk_at "uy"
      walk_at "uj"
      refine s_seqJ (fun σ' H' => H4 = H' ∧ ¬ (i = 0 ∧ t = "1") ∧ σ' = [some (.str z), some (.ref p), (some (.ref s)), o3, (some (.int (i : Nat))), (some (.int sg)), (some (.str t)), o7, none]) ?_ (fun R hR => ?_)
      · rintro σ' _ ⟨rfl, hno, rfl⟩
        rw [if_neg hno] at hr
        walk_at "uy"
        have ltz : z.cps.toList.length = z.length := Array.length_toList
        have htl' : t.length ≤ z.cps.toList.length := by simpa only [List.length_nil, Nat.zero_add] using htl
        refine ⟨t, rfl, by omega, fun p5 H5 e5 h5 => ?_⟩
        have d5 := d4.ex e5
        have hs5 := e5 _ _ hs4
        have pr := pow_rng t
        refine s_gt (.of h5) rfl ?_
        generalize (powV t).1 = nm at hr h5
        generalize (powV t).2 = pw at hr h5 pr
        walk_at "uy"
        have none_ : (pw = 0 ∨ nm ∉ ns) → Q .non H5 := fun h => k .non H5 ((d2.tr d5).from hs e0) (.inl ⟨by
          unfold readV
          rw [if_neg (by omega), ← hr, if_pos h], rfl⟩)
        refine s_ite (fun h0 => ?_) (fun h0 => ?_)
        · walk_at "uy"
          exact none_ (.inl h0)
        walk_at "uy"
        refine ⟨s, _, rfl, dget_s hs5 valV_sums, ?_⟩
        walk_at "uy"
        by_cases hm : nm ∈ ns
        · rw [if_pos hm]
          rw [if_neg (fun q => q.elim h0 (fun q => q hm))] at hr
          walk_at "uy"
          refine s_dget ?_
          walk_at "uy"
          refine ⟨s, _, rfl, dget_s hs5 (by rw [valV_sums, if_pos hm]), ?_⟩
          walk_at "uy"
          have hsg' : sg = 1 ∨ sg = -1 := hsg
          exact ⟨s, _, rfl, dput_s hs5 (by unfold sumsK; rw [List.length_map]; show _ < 16777216; omega) (putK_sums hm), d5.put, _, _, _, _, _, _, upd_same, hr, rfl⟩
        · rw [if_neg hm]
          walk_at "uy"
          exact none_ (.inr hm)
      · walk_at "uy"
        refine s_ite (fun h0 => ?_) (fun h0 => ?_)
        · walk_at "uy"
          refine s_ite (fun h1 => ?_) (fun h1 => ?_)
          · walk_at "uy"
            rw [if_pos ⟨by omega, h1⟩] at hr
            exact ⟨d4, f, _, _, _, _, _, hs4, hr, rfl⟩
          · walk_at "uy"
            exact hR _ _ ⟨rfl, fun q => h1 q.2, rfl⟩
        · walk_at "uy"
          exact hR _ _ ⟨rfl, fun q => h0 (by omega), rfl⟩
  · rintro i x σ' H1 hx ⟨d1, hs1, o, rfl⟩
    obtain ⟨n, hn, rfl⟩ := str_get hx
    walk_at "uy"
    have nn : n ∉ ns.take i := fun hm => by
      obtain ⟨j, hj⟩ := List.mem_iff_getElem?.mp hm
      have hjl : j < (ns.take i).length := (List.getElem?_eq_some_iff.mp hj).1
      rw [List.length_take] at hjl
      rw [List.getElem?_take, if_pos (by omega)] at hj
      have := nodup_inj nd1 hj hn
      omega
    refine ⟨s, _, rfl, dput_s hs1 (by unfold sumsK; rw [List.length_map, List.length_take]; show _ < 16777216; omega) (putK_sums_new (f := fun _ => 0) nn), d1.put, ?_, _, rfl⟩
    rw [List.take_add_one, hn]
    exact upd_same
end
end Lw

set_option Elab.async false
set_option linter.all false
set_option maxRecDepth 100000
set_option maxHeartbeats 4000000
namespace Lw
open PySem PySem.Spec L2 Uv
open PyProof.Rows hiding St
local macro_rules | `(tactic| walk_at "umul") => `(tactic| fail)
local macro_rules | `(tactic| walk_at "us1") => `(tactic| first
  | (with_reducible refine s_seq ?_) | (with_reducible refine s_asg ?_) | (with_reducible refine s_gn ?_) | (with_reducible refine s_ret ?_) | (with_reducible refine s_drop ?_) | (with_reducible refine s_if ?_) | (with_reducible refine s_next ?_)
  | (with_reducible refine s_brk ?_) | (with_reducible refine s_cont ?_)
  | ((with_reducible refine' s_var ?hv ?_); (case hv => exact rfl)) | (with_reducible refine s_c ?_) | (with_reducible refine s_op ?_) | (with_reducible refine s_un ?_) | (with_reducible refine s_cb ?_) | (with_reducible refine s_call ?_)
  | (with_reducible refine s_cons ?_) | (with_reducible refine s_nil ?_) | (with_reducible refine s_test ?_) | (with_reducible refine s_tB ?_) | (with_reducible refine s_not ?_) | (with_reducible refine s_and ?_) | (with_reducible refine s_or ?_)
  | (with_reducible refine s_andV ?_) | (with_reducible refine s_orV ?_) | (with_reducible refine s_notV ?_) | (with_reducible refine s_ifE ?_) | (with_reducible refine s_bl ?_) | (with_reducible refine s_iT ?_) | (with_reducible refine s_iF ?_)
  | (with_reducible refine s_I0 ?_) | (with_reducible refine s_U ?_) | (with_reducible refine s_addI ?_) | (with_reducible refine s_eqI ?_) | (with_reducible refine s_eqS ?_) | (with_reducible refine s_eqB ?_) | (with_reducible refine s_neI ?_) | (with_reducible refine s_neS ?_) | (with_reducible refine s_neB ?_)
  | (with_reducible refine s_tupE ?_) | (with_reducible refine s_lstE ?_))
local macro_rules | `(tactic| walk_at "us") => `(tactic| repeat walk_at "us1")
local macro_rules | `(tactic| walk_at "ulen") => `(tactic| (intro vs H Q E h; repeat' (first | (obtain ⟨e, _⟩ := h; subst e; rfl) | (subst h; rfl) | (refine Or.elim h (fun h => ?_) (fun h => ?_)) | (obtain ⟨_, h⟩ := h))))
local macro_rules | `(tactic| walk_at "uk") => `(tactic| (try dsimp only [cxOf, Cx.suite, Cx.tr]))
local macro_rules | `(tactic| walk_at "us2") => `(tactic| first
  | walk_at "us1" | (with_reducible refine s_dput ?_) | ((with_reducible refine' s_mod ?hc ?_); (case hc => first | decide | assumption | omega))
  | (with_reducible refine s_for ?_) | (with_reducible refine s_lc ?_) | (with_reducible refine s_bm ?_) | (with_reducible refine s_ilt ?_) | (with_reducible refine s_izx ?_) | (with_reducible refine s_ienum ?_) | (with_reducible refine s_din ?_) | (with_reducible refine s_dnotin ?_) | (with_reducible refine s_itl ?_) | (with_reducible refine s_itt ?_) | (with_reducible refine s_its ?_) | (with_reducible refine s_itr ?_) | (with_reducible refine s_itr2 ?_) | (with_reducible refine s_disp ?_) | (with_reducible refine s_prn ?_) | (with_reducible refine s_prc ?_) | (with_reducible refine s_m1 ?_) | (with_reducible refine s_isS ?_) | (with_reducible refine s_um1 ?_) | (with_reducible refine s_isB ?_) | (with_reducible refine s_isn ?_) | (with_reducible refine s_notn ?_) | (with_reducible refine s_jd ?_) | (with_reducible refine s_jn ?_) | (with_reducible refine s_jc ?_) | (with_reducible refine s_fmt ?_) | (with_reducible refine s_gc ?_) | (with_reducible refine s_gnil ?_) | (with_reducible refine s_yes ?_) | (with_reducible refine s_raise ?_)
  | ((with_reducible refine' s_pow ?hc ?_); (case hc => exact ⟨by decide, by decide, by decide⟩)) | (with_reducible refine s_int ?_) | (with_reducible refine s_intB ?_) | (with_reducible refine s_strS ?_) | (with_reducible refine s_abs ?_) | (with_reducible refine s_max ?_) | (with_reducible refine s_min ?_) | (with_reducible refine s_gcd ?_)
  | (with_reducible refine s_chain ?_) | (with_reducible refine s_sl ?_) | (with_reducible refine s_noP ?_) | (with_reducible refine s_part ?_) | (with_reducible refine s_exI ?_) 
  | ((with_reducible refine' s_mulI ?hc ?_); (case hc => first | exact Or.inl (Or.inr ⟨by decide, by decide⟩) | exact Or.inl (Or.inl ⟨by decide, by decide⟩) | exact Or.inl (Or.inl ⟨by omega, by omega⟩) | exact Or.inl (Or.inr ⟨by omega, by omega⟩) | walk_at "umul"))
  | ((with_reducible refine' s_ixT ?hc ?hd ?_); (case hc => assumption); (case hd => rfl))
  | ((with_reducible refine' s_lenL ?hc ?_); (case hc => first | assumption | exact SqL.of (by assumption))) | ((with_reducible refine' s_lenT ?hc ?_); (case hc => first | assumption | exact SqT.of (by assumption)))
  | ((with_reducible refine' s_divP ?hc ?hd ?_); (case hc => first | decide | assumption | omega); (case hd => first | decide +kernel | assumption)))
local macro_rules | `(tactic| walk_at "us") => `(tactic| repeat walk_at "us2")
local macro_rules | `(tactic| walk_at "uj") => `(tactic| ((walk_at "us"); with_reducible refine s_J ?_))
local macro_rules | `(tactic| walk_at "ua") => `(tactic| ((walk_at "us"); repeat ((with_reducible refine s_ick ?_); (first | (refine s_iF ?_) | (refine s_iT ?_)); (walk_at "us"))))
local macro_rules | `(tactic| walk_at "ub") => `(tactic| walk_at "ua")
local macro_rules | `(tactic| walk_at "ux1") => `(tactic| first
  | walk_at "us2" | ((with_reducible refine' s_ixL ?hc ?hd ?_); (case hc => first | assumption | exact SqL.of (by assumption)); (case hd => rfl)) | ((with_reducible refine' s_ixT ?hc ?hd ?_); (case hc => exact SqT.of (by assumption)); (case hd => rfl))
  | ((with_reducible refine' s_intS ?hc ?hd ?_); (case hc => assumption); (case hd => assumption)) | ((with_reducible refine' s_lenS ?hc ?_); (case hc => assumption)))
local macro_rules | `(tactic| walk_at "ux") => `(tactic| repeat walk_at "ux1")
local macro_rules | `(tactic| walk_at "uy") => `(tactic| ((walk_at "ux"); repeat ((with_reducible refine s_ick ?_); (first | (refine s_iF ?_) | (refine s_iT ?_)); (walk_at "ux"))))
local macro_rules | `(tactic| walk_at "uz0") => `(tactic| first
  | (with_reducible refine s_seq ?_) | (with_reducible refine s_asg ?_) | (with_reducible refine s_gn ?_) | (with_reducible refine s_ret ?_) | (with_reducible refine s_drop ?_) | (with_reducible refine s_if ?_) | (with_reducible refine s_next ?_)
  | (with_reducible refine s_brk ?_) | (with_reducible refine s_cont ?_)
  | ((with_reducible refine' s_var ?hv ?_); (case hv => exact rfl)) | (with_reducible refine s_c ?_) | (with_reducible refine s_op ?_) | (with_reducible refine s_un ?_) | (with_reducible refine s_cb ?_) | (with_reducible refine s_call ?_)
  | (with_reducible refine s_cons ?_) | (with_reducible refine s_nil ?_) | (with_reducible refine s_test ?_) | (with_reducible refine s_tB ?_) | (with_reducible refine s_not ?_) | (with_reducible refine s_and ?_) | (with_reducible refine s_or ?_)
  | (with_reducible refine s_andV ?_) | (with_reducible refine s_orV ?_) | (with_reducible refine s_notV ?_) | (with_reducible refine s_ifE ?_) | (with_reducible refine s_bl ?_) | (with_reducible refine s_iT ?_) | (with_reducible refine s_iF ?_)
  | (with_reducible refine s_I0 ?_) | (with_reducible refine s_U ?_) | (with_reducible refine s_addI ?_) | (with_reducible refine s_eqI ?_) | (with_reducible refine s_eqS ?_) | (with_reducible refine s_eqB ?_) | (with_reducible refine s_neI ?_) | (with_reducible refine s_neS ?_) | (with_reducible refine s_neB ?_))
local macro_rules | `(tactic| walk_at "uz2") => `(tactic| first
  | walk_at "uz0" | (with_reducible refine s_dput ?_) | ((with_reducible refine' s_mod ?hc ?_); (case hc => first | decide | assumption | omega))
  | (with_reducible refine s_for ?_) | (with_reducible refine s_lc ?_) | (with_reducible refine s_bm ?_) | (with_reducible refine s_ilt ?_) | (with_reducible refine s_izx ?_) | (with_reducible refine s_ienum ?_) | (with_reducible refine s_din ?_) | (with_reducible refine s_dnotin ?_) | (with_reducible refine s_itl ?_) | (with_reducible refine s_itt ?_) | (with_reducible refine s_its ?_) | (with_reducible refine s_itr ?_) | (with_reducible refine s_itr2 ?_) | (with_reducible refine s_disp ?_) | (with_reducible refine s_prn ?_) | (with_reducible refine s_prc ?_) | (with_reducible refine s_m1 ?_) | (with_reducible refine s_isS ?_) | (with_reducible refine s_um1 ?_) | (with_reducible refine s_isB ?_) | (with_reducible refine s_isn ?_) | (with_reducible refine s_notn ?_) | (with_reducible refine s_jd ?_) | (with_reducible refine s_jn ?_) | (with_reducible refine s_jc ?_) | (with_reducible refine s_fmt ?_) | (with_reducible refine s_gc ?_) | (with_reducible refine s_gnil ?_) | (with_reducible refine s_yes ?_) | (with_reducible refine s_raise ?_)
  | ((with_reducible refine' s_pow ?hc ?_); (case hc => exact ⟨by decide, by decide, by decide⟩)) | (with_reducible refine s_int ?_) | (with_reducible refine s_intB ?_) | (with_reducible refine s_strS ?_) | (with_reducible refine s_abs ?_) | (with_reducible refine s_max ?_) | (with_reducible refine s_min ?_) | (with_reducible refine s_gcd ?_)
  | (with_reducible refine s_chain ?_) | (with_reducible refine s_sl ?_) | (with_reducible refine s_noP ?_) | (with_reducible refine s_part ?_) | (with_reducible refine s_exI ?_) 
  | ((with_reducible refine' s_mulI ?hc ?_); (case hc => first | exact Or.inl (Or.inr ⟨by decide, by decide⟩) | exact Or.inl (Or.inl ⟨by decide, by decide⟩) | exact Or.inl (Or.inl ⟨by omega, by omega⟩) | exact Or.inl (Or.inr ⟨by omega, by omega⟩) | walk_at "umul"))
  | ((with_reducible refine' s_ixT ?hc ?hd ?_); (case hc => assumption); (case hd => rfl))
  | ((with_reducible refine' s_lenL ?hc ?_); (case hc => first | assumption | exact SqL.of (by assumption))) | ((with_reducible refine' s_lenT ?hc ?_); (case hc => first | assumption | exact SqT.of (by assumption)))
  | ((with_reducible refine' s_divP ?hc ?hd ?_); (case hc => first | decide | assumption | omega); (case hd => first | decide +kernel | assumption)))
local macro_rules | `(tactic| walk_at "uz1") => `(tactic| first
  | walk_at "uz2" | ((with_reducible refine' s_ixL ?hc ?hd ?_); (case hc => first | assumption | exact SqL.of (by assumption)); (case hd => rfl)) | ((with_reducible refine' s_ixT ?hc ?hd ?_); (case hc => exact SqT.of (by assumption)); (case hd => rfl))
  | ((with_reducible refine' s_intS ?hc ?hd ?_); (case hc => assumption); (case hd => assumption)) | ((with_reducible refine' s_lenS ?hc ?_); (case hc => assumption)))
local macro_rules | `(tactic| walk_at "uz") => `(tactic| ((repeat walk_at "uz1"); repeat ((with_reducible refine s_ick ?_); (first | (refine s_iF ?_) | (refine s_iT ?_)); (repeat walk_at "uz1"))))
section
variable {P : Program} {w : World} {K : PySem.W.Frag} {mg : Str → Option Value} {base : Heap}
variable {cE cH cU cW : Addr}
theorem ok_write_product (T : Tp P K mg cE cH cU cW)
    {f : Addr} {fd : FuncData} {dvs : List V} (F : FunD K "write_product" "write_product" (defArgs s_write_product) (defBody s_write_product) (defScope s_write_product) dvs [] f fd) : FnG P w K mg base 1 f fd P_write_product (spWrite K) := by
  refine fng F sc_write_product (by walk_at "ulen") (fun cdv A outer s H vs Q E hr0 hg0 h => ?_)
  have hr : Rm 0 (A.deeper (envOfC "write_product" (defScope s_write_product) s.heap.objs.size f cdv)) := ⟨hr0, hg0⟩
  have nd : N_write_product.Nodup := sc_write_product.nd
  have po : PassesOwn (model P w) (cxOf (L2.CX P w) P w K mg base N_write_product "write_product" (defScope s_write_product) f cdv A outer s H E).A (cxOf (L2.CX P w) P w K mg base N_write_product "write_product" (defScope s_write_product) f cdv A outer s H E).env (cxOf (L2.CX P w) P w K mg base N_write_product "write_product" (defScope s_write_product) f cdv A outer s H E).xe := passes_of rfl
  obtain ⟨p, q, ns, xs, rfl, hp, hq, hl, h20, h12, hin, k⟩ := h
  refine ⟨_, (pss_cons (ps_set (i := 2) nd rfl (Or.inl rfl) (pe_lst pa_nil))
    (pss_cons (ps_set (i := 3) nd rfl (Or.inl rfl) pe_str)
    (pss_cons (ps_for po rfl (Zx.pi_zx (by rfl) T.zip (pa_cons (pv 0) (pa_cons (pv 1) pa_nil))) (pg_tup rfl (pgs_cons (pg_name (i := 4) nd rfl (Or.inl rfl)) (pgs_cons (pg_name (i := 5) nd rfl (Or.inl rfl)) pgs_nil)))
    (pss_one (ps_if (pt_cmpR (op_uEq hr.r.units) (pv 5) pe_int (nomark _)) (pss_one (ps_expr (pe_bm PySem.F.plainAttrs_list PySem.F.slot_list_append PySem.F.type_list_append mt_append (pv 2) (pa_cons (pv 4) pa_nil)))) (pss_one (ps_if (pt_cmpR op_gt (pv 5) pe_int (nomark _)) (pss_one (ps_expr (pe_bm PySem.F.plainAttrs_list PySem.F.slot_list_append PySem.F.type_list_append mt_append (pv 2) (pa_cons (pe_jd (PJ.cons (pe_fmt (pv 4)) (PJ.cons pe_str (PJ.cons (pe_fmt (pv 5)) PJ.nil)))) pa_nil)))) (pss_one (ps_if (pt_cmpR (op_uEq hr.r.units) (pv 5) (pe_un un_neg pe_int) (nomark _)) (pss_one (ps_set (i := 3) nd rfl (Or.inl rfl) (pe_jd (PJ.cons (pe_fmt (pv 3)) (PJ.cons pe_str (PJ.cons (pe_fmt (pv 4)) PJ.nil)))))) (pss_one (ps_if (pt_cmpR op_lt (pv 5) (pe_un un_neg pe_int) (nomark _)) (pss_one (ps_set (i := 3) nd rfl (Or.inl rfl) (pe_jd (PJ.cons (pe_fmt (pv 3)) (PJ.cons pe_str (PJ.cons (pe_fmt (pv 4)) (PJ.cons pe_str (PJ.cons (pe_fmt (pe_un un_neg (pv 5))) PJ.nil)))))))) pss_nil)))))))))
    (pss_cons (ps_if (pt_cmpR (op_uEq hr.r.units) (pe_callB call_uLen (by rfl) T.len b_len (pa_cons (pv 2) pa_nil)) pe_int (nomark _)) (pss_one (ps_ret (pe_op op_uAdd pe_str (pv 3)))) pss_nil)
    (pss_one (ps_ret (pe_op op_uAdd (pe_join pe_str (pv 2)) (pv 3)))))))), ?_⟩
  walk_at "uk"
  walk_at "uy"
  refine s_szN (Nat.le_of_ble_eq_true rfl) fun ab nab => ?_
  walk_at "uy"
  obtain ⟨kd, hk⟩ := hp.sq
  have e0 := exN (o := .lst []) nab
  refine loopZ (j := kd) (k := false) ns.length (by rw [List.length_map, List.length_map]; omega) (fun i σ' H' => Ex H H' ∧ H' ab = some (.lst ((aboveL ((ns.zip xs).take i)).map V.str)) ∧ (belowL ((ns.zip xs).take i)).length ≤ 20 * i ∧ (aboveL ((ns.zip xs).take i)).length ≤ i ∧ (∀ y ∈ aboveL ((ns.zip xs).take i), y.length ≤ 20) ∧ ∃ o4 o5, σ' = [some (.ref p), some (.ref q), (some (.ref ab)), (some (.str (belowL ((ns.zip xs).take i)))), o4, o5]) ?_ (fun i σ' H' h => h.1.kx.sq hk) (fun i σ' H' h => Ex.st hq h.1) ?_ ?_
  · exact ⟨e0, upd_same, Nat.zero_le _, Nat.zero_le _, (fun y h => by cases h), none, none, rfl⟩
  · rintro σ' H' ⟨e, ha, hb, hal, hc, o4, o5, rfl⟩
    have zt : (ns.zip xs).take ns.length = ns.zip xs := List.take_of_length_le (by rw [List.length_zip]; omega)
    rw [zt] at ha hb hal hc
    rw [zt]
    have ka := k H' e
    unfold writV at ka
    generalize belowL (ns.zip xs) = bl at hb ka
    generalize aboveL (ns.zip xs) = av at ha hal hc ka
    walk_at "uy"
    refine s_ite (fun h0 => ?_) (fun h0 => ?_)
    · have : av = [] := by
        rw [List.length_map] at h0
        exact List.eq_nil_of_length_eq_zero (by omega)
      rw [if_pos this] at ka
      walk_at "uy"
      refine s_addS (by show 1 + _ ≤ 16777216; omega) ?_
      exact ka
    · have : ¬ av = [] := fun q => h0 (by rw [q]; rfl)
      rw [if_neg this] at ka
      walk_at "uy"
      have sl := sum_le 20 av hc
      have o1 : (("*" : Str)).length = 1 := rfl
      have jl := join_len "*" av
      rw [o1] at jl
      refine ⟨"*", ab, av, rfl, rfl, .inl (.of ha), by rw [o1]; omega, ?_⟩
      walk_at "uy"
      refine s_addS (by show _ ≤ 16777216; omega) ?_
      exact ka
  · rintro i x y T σ' H' hx hy ⟨e, ha, hb, hal, hc, o4, o5, rfl⟩ nT
    obtain ⟨n, hn, rfl⟩ := str_get hx
    obtain ⟨pw, hpw, rfl⟩ := int_get hy
    have hr9 := inR_of hin hpw
    have ln := h12 n (List.mem_of_getElem? hn)
    have li : i < ns.length := (List.getElem?_eq_some_iff.mp hn).1
    have za := above_add n pw ((ns.zip xs).take i)
    have zb := below_add n pw ((ns.zip xs).take i)
    rw [zip_add hn hpw, za, zb]
    refine s_gt (.of upd_same) rfl ?_
    walk_at "uy"
    have nab' : ab ≠ T := fun q => by rw [q, nT] at ha; cases ha
    have ha' : upd H' T (.tup [.str n, .int pw]) ab = some (.lst ((aboveL ((ns.zip xs).take i)).map V.str)) := by rw [upd_ne nab']; exact ha
    have e' := e.tr (exN (o := .tup [.str n, .int pw]) nT)
    generalize upd H' T (.tup [.str n, .int pw]) = H2 at ha' e'
    generalize belowL ((ns.zip xs).take i) = bl at hb
    generalize aboveL ((ns.zip xs).take i) = av at ha' hc hal
    have oc : (("^" : Str)).length = 1 := rfl
    have os : (("/" : Str)).length = 1 := rfl
    have full : ∀ y : Str, y.length ≤ 20 → 0 < pw → y = segA n pw → (Ex H (upd H2 ab (.lst (av.map V.str ++ [.str y]))) ∧ upd H2 ab (.lst (av.map V.str ++ [.str y])) ab = some (.lst ((if 0 < pw then av ++ [segA n pw] else av).map V.str)) ∧ (if pw < 0 then bl ++ segB n pw else bl).length ≤ 20 * (i + 1) ∧ (if 0 < pw then av ++ [segA n pw] else av).length ≤ i + 1 ∧ ∀ z ∈ (if 0 < pw then av ++ [segA n pw] else av), z.length ≤ 20) := fun y hy p0 ey => by
      rw [if_pos p0, if_neg (show ¬ pw < 0 by omega), ← ey]
      refine ⟨ex_put nab e', by rw [List.map_append]; exact upd_same, by omega, by rw [List.length_append]; exact Nat.succ_le_succ hal, fun z hz => ?_⟩
      rcases List.mem_append.mp hz with hz | hz
      · exact hc z hz
      · rw [List.mem_singleton.mp hz]; exact hy
    have low_ : ∀ y : Str, y.length ≤ 20 * (i + 1) → pw < 0 → y = bl ++ segB n pw → (H2 ab = some (.lst ((if 0 < pw then av ++ [segA n pw] else av).map V.str)) ∧ (if pw < 0 then bl ++ segB n pw else bl).length ≤ 20 * (i + 1) ∧ (if 0 < pw then av ++ [segA n pw] else av).length ≤ i + 1 ∧ (∀ z ∈ (if 0 < pw then av ++ [segA n pw] else av), z.length ≤ 20)) := fun y hy p0 ey => by
      rw [if_neg (show ¬ 0 < pw by omega), if_pos p0, ← ey]
      exact ⟨ha', hy, by omega, hc⟩
    refine s_ite (fun h1 => ?_) (fun h1 => ?_)
    · walk_at "uy"
      refine s_tyL (.of ha') ?_
      walk_at "uy"
      refine s_app ha' (by rw [List.length_map]; show _ < 16777216; omega) ?_
      obtain ⟨f1, f2, f3, f4, f5⟩ := full n (by omega) (by omega) (by unfold segA upT; rw [if_neg (by omega), str_emp])
      exact ⟨f1, f2, f3, f4, f5, _, _, by rw [if_neg (show ¬ pw < 0 by omega)]; rfl⟩
    walk_at "uy"
    refine s_ite (fun h2 => ?_) (fun h2 => ?_)
    · walk_at "uy"
      refine s_tyL (.of ha') ?_
      walk_at "uy"
      obtain ⟨tl1, tl2⟩ := tos_len (p := pw) (by omega) (by omega)
      refine .inl ⟨n, rfl, by show _ ≤ 16777216; omega, n, rfl, by rw [emp_app]; show _ ≤ 16777216; omega, ?_⟩
      rw [emp_app]
      walk_at "uy"
      refine ⟨"^", rfl, by rw [app_len, oc]; show _ ≤ 16777216; omega, ?_⟩
      walk_at "uy"
      refine .inr ⟨pw, rfl, tl1, _, rfl, by rw [app_len, app_len, oc, tl2]; show _ ≤ 16777216; omega, ?_⟩
      walk_at "uy"
      have ey : n ++ ("^" : Str) ++ Str.ofString (toString pw) = segA n pw := by unfold segA upT; rw [if_pos (by omega), str_assoc]
      rw [ey]
      refine s_app ha' (by rw [List.length_map]; show _ < 16777216; omega) ?_
      obtain ⟨f1, f2, f3, f4, f5⟩ := full (segA n pw) (by rw [← ey, app_len, app_len, oc, tl2]; omega) (by omega) rfl
      exact ⟨f1, f2, f3, f4, f5, _, _, by rw [if_neg (show ¬ pw < 0 by omega)]; rfl⟩
    walk_at "uy"
    refine s_ite (fun h3 => ?_) (fun h3 => ?_)
    · walk_at "uy"
      refine .inl ⟨bl, rfl, by show _ ≤ 16777216; omega, bl, rfl, by rw [emp_app]; show _ ≤ 16777216; omega, ?_⟩
      rw [emp_app]
      walk_at "uy"
      refine ⟨"/", rfl, by rw [app_len, os]; show _ ≤ 16777216; omega, ?_⟩
      walk_at "uy"
      refine .inl ⟨n, rfl, by show _ ≤ 16777216; omega, n, rfl, by rw [app_len, app_len, os]; show _ ≤ 16777216; omega, ?_⟩
      walk_at "uy"
      have ey : bl ++ ("/" : Str) ++ n = bl ++ segB n pw := by unfold segB dnT; rw [if_neg (by omega), str_emp, str_assoc]
      obtain ⟨f2, f3, f4, f5⟩ := low_ (bl ++ ("/" : Str) ++ n) (by rw [app_len, app_len, os]; omega) (by omega) ey
      exact ⟨e', f2, f3, f4, f5, _, _, by rw [if_pos (show pw < 0 by omega), ← ey]; rfl⟩
    walk_at "uy"
    refine s_ite (fun h4 => ?_) (fun h4 => ?_)
    · walk_at "uy"
      obtain ⟨tl1, tl2⟩ := tos_len (p := -pw) (by omega) (by omega)
      refine .inl ⟨bl, rfl, by show _ ≤ 16777216; omega, bl, rfl, by rw [emp_app]; show _ ≤ 16777216; omega, ?_⟩
      rw [emp_app]
      walk_at "uy"
      refine ⟨"/", rfl, by rw [app_len, os]; show _ ≤ 16777216; omega, ?_⟩
      walk_at "uy"
      refine .inl ⟨n, rfl, by show _ ≤ 16777216; omega, n, rfl, by rw [app_len, app_len, os]; show _ ≤ 16777216; omega, ?_⟩
      walk_at "uy"
      refine ⟨"^", rfl, by rw [app_len, app_len, app_len, oc, os]; show _ ≤ 16777216; omega, ?_⟩
      walk_at "uy"
      refine .inr ⟨-pw, rfl, tl1, _, rfl, by rw [app_len, app_len, app_len, app_len, oc, os, tl2]; show _ ≤ 16777216; omega, ?_⟩
      walk_at "uy"
      have ey : bl ++ ("/" : Str) ++ n ++ ("^" : Str) ++ Str.ofString (toString (-pw)) = bl ++ segB n pw := by unfold segB dnT; rw [if_pos (by omega)]; simp only [str_assoc]
      obtain ⟨f2, f3, f4, f5⟩ := low_ (bl ++ ("/" : Str) ++ n ++ ("^" : Str) ++ Str.ofString (toString (-pw))) (by rw [app_len, app_len, app_len, app_len, oc, os, tl2]; omega) (by omega) ey
      exact ⟨e', f2, f3, f4, f5, _, _, by rw [if_pos (show pw < 0 by omega), ← ey]; rfl⟩
    walk_at "uy"
    have p0 : pw = 0 := by omega
    rw [if_neg (show ¬ 0 < pw by omega), if_neg (show ¬ pw < 0 by omega)]
    exact ⟨e', ha', by omega, by omega, hc, _, _, rfl⟩
end
end Lw

set_option Elab.async false
set_option linter.all false
set_option maxRecDepth 100000
set_option maxHeartbeats 4000000
namespace Lw
open PySem PySem.Spec L2 Uv
open PyProof.Rows hiding St
local macro_rules | `(tactic| walk_at "umul") => `(tactic| fail)
local macro_rules | `(tactic| walk_at "us1") => `(tactic| first
  | (with_reducible refine s_seq ?_) | (with_reducible refine s_asg ?_) | (with_reducible refine s_gn ?_) | (with_reducible refine s_ret ?_) | (with_reducible refine s_drop ?_) | (with_reducible refine s_if ?_) | (with_reducible refine s_next ?_)
  | (with_reducible refine s_brk ?_) | (with_reducible refine s_cont ?_)
  | ((with_reducible refine' s_var ?hv ?_); (case hv => exact rfl)) | (with_reducible refine s_c ?_) | (with_reducible refine s_op ?_) | (with_reducible refine s_un ?_) | (with_reducible refine s_cb ?_) | (with_reducible refine s_call ?_)
  | (with_reducible refine s_cons ?_) | (with_reducible refine s_nil ?_) | (with_reducible refine s_test ?_) | (with_reducible refine s_tB ?_) | (with_reducible refine s_not ?_) | (with_reducible refine s_and ?_) | (with_reducible refine s_or ?_)
  | (with_reducible refine s_andV ?_) | (with_reducible refine s_orV ?_) | (with_reducible refine s_notV ?_) | (with_reducible refine s_ifE ?_) | (with_reducible refine s_bl ?_) | (with_reducible refine s_iT ?_) | (with_reducible refine s_iF ?_)
  | (with_reducible refine s_I0 ?_) | (with_reducible refine s_U ?_) | (with_reducible refine s_addI ?_) | (with_reducible refine s_eqI ?_) | (with_reducible refine s_eqS ?_) | (with_reducible refine s_eqB ?_) | (with_reducible refine s_neI ?_) | (with_reducible refine s_neS ?_) | (with_reducible refine s_neB ?_)
  | (with_reducible refine s_tupE ?_) | (with_reducible refine s_lstE ?_))
local macro_rules | `(tactic| walk_at "us") => `(tactic| repeat walk_at "us1")
local macro_rules | `(tactic| walk_at "ulen") => `(tactic| (intro vs H Q E h; repeat' (first | (obtain ⟨e, _⟩ := h; subst e; rfl) | (subst h; rfl) | (refine Or.elim h (fun h => ?_) (fun h => ?_)) | (obtain ⟨_, h⟩ := h))))
local macro_rules | `(tactic| walk_at "uk") => `(tactic| (try dsimp only [cxOf, Cx.suite, Cx.tr]))
local macro_rules | `(tactic| walk_at "us2") => `(tactic| first
  | walk_at "us1" | (with_reducible refine s_dput ?_) | ((with_reducible refine' s_mod ?hc ?_); (case hc => first | decide | assumption | omega))
  | (with_reducible refine s_for ?_) | (with_reducible refine s_lc ?_) | (with_reducible refine s_bm ?_) | (with_reducible refine s_ilt ?_) | (with_reducible refine s_izx ?_) | (with_reducible refine s_ienum ?_) | (with_reducible refine s_din ?_) | (with_reducible refine s_dnotin ?_) | (with_reducible refine s_itl ?_) | (with_reducible refine s_itt ?_) | (with_reducible refine s_its ?_) | (with_reducible refine s_itr ?_) | (with_reducible refine s_itr2 ?_) | (with_reducible refine s_disp ?_) | (with_reducible refine s_prn ?_) | (with_reducible refine s_prc ?_) | (with_reducible refine s_m1 ?_) | (with_reducible refine s_isS ?_) | (with_reducible refine s_um1 ?_) | (with_reducible refine s_isB ?_) | (with_reducible refine s_isn ?_) | (with_reducible refine s_notn ?_) | (with_reducible refine s_jd ?_) | (with_reducible refine s_jn ?_) | (with_reducible refine s_jc ?_) | (with_reducible refine s_fmt ?_) | (with_reducible refine s_gc ?_) | (with_reducible refine s_gnil ?_) | (with_reducible refine s_yes ?_) | (with_reducible refine s_raise ?_)
  | ((with_reducible refine' s_pow ?hc ?_); (case hc => exact ⟨by decide, by decide, by decide⟩)) | (with_reducible refine s_int ?_) | (with_reducible refine s_intB ?_) | (with_reducible refine s_strS ?_) | (with_reducible refine s_abs ?_) | (with_reducible refine s_max ?_) | (with_reducible refine s_min ?_) | (with_reducible refine s_gcd ?_)
  | (with_reducible refine s_chain ?_) | (with_reducible refine s_sl ?_) | (with_reducible refine s_noP ?_) | (with_reducible refine s_part ?_) | (with_reducible refine s_exI ?_) 
  | ((with_reducible refine' s_mulI ?hc ?_); (case hc => first | exact Or.inl (Or.inr ⟨by decide, by decide⟩) | exact Or.inl (Or.inl ⟨by decide, by decide⟩) | exact Or.inl (Or.inl ⟨by omega, by omega⟩) | exact Or.inl (Or.inr ⟨by omega, by omega⟩) | walk_at "umul"))
  | ((with_reducible refine' s_ixT ?hc ?hd ?_); (case hc => assumption); (case hd => rfl))
  | ((with_reducible refine' s_lenL ?hc ?_); (case hc => first | assumption | exact SqL.of (by assumption))) | ((with_reducible refine' s_lenT ?hc ?_); (case hc => first | assumption | exact SqT.of (by assumption)))
  | ((with_reducible refine' s_divP ?hc ?hd ?_); (case hc => first | decide | assumption | omega); (case hd => first | decide +kernel | assumption)))
local macro_rules | `(tactic| walk_at "us") => `(tactic| repeat walk_at "us2")
local macro_rules | `(tactic| walk_at "uj") => `(tactic| ((walk_at "us"); with_reducible refine s_J ?_))
local macro_rules | `(tactic| walk_at "ua") => `(tactic| ((walk_at "us"); repeat ((first | (refine s_iF ?_) | (refine s_iT ?_)); (walk_at "us"))))
local macro_rules | `(tactic| walk_at "ub") => `(tactic| walk_at "ua")
local macro_rules | `(tactic| walk_at "ux1") => `(tactic| first
  | walk_at "us2" | ((with_reducible refine' s_ixL ?hc ?hd ?_); (case hc => first | assumption | exact SqL.of (by assumption)); (case hd => rfl)) | ((with_reducible refine' s_ixT ?hc ?hd ?_); (case hc => exact SqT.of (by assumption)); (case hd => rfl))
  | ((with_reducible refine' s_intS ?hc ?hd ?_); (case hc => assumption); (case hd => assumption)) | ((with_reducible refine' s_lenS ?hc ?_); (case hc => assumption)))
local macro_rules | `(tactic| walk_at "ux") => `(tactic| repeat walk_at "ux1")
local macro_rules | `(tactic| walk_at "uy") => `(tactic| ((walk_at "ux"); repeat ((first | (refine s_iF ?_) | (refine s_iT ?_)); (walk_at "ux"))))
local macro_rules | `(tactic| walk_at "uz0") => `(tactic| first
  | (with_reducible refine s_seq ?_) | (with_reducible refine s_asg ?_) | (with_reducible refine s_gn ?_) | (with_reducible refine s_ret ?_) | (with_reducible refine s_drop ?_) | (with_reducible refine s_if ?_) | (with_reducible refine s_next ?_)
  | (with_reducible refine s_brk ?_) | (with_reducible refine s_cont ?_)
  | ((with_reducible refine' s_var ?hv ?_); (case hv => exact rfl)) | (with_reducible refine s_c ?_) | (with_reducible refine s_op ?_) | (with_reducible refine s_un ?_) | (with_reducible refine s_cb ?_) | (with_reducible refine s_call ?_)
  | (with_reducible refine s_cons ?_) | (with_reducible refine s_nil ?_) | (with_reducible refine s_test ?_) | (with_reducible refine s_tB ?_) | (with_reducible refine s_not ?_) | (with_reducible refine s_and ?_) | (with_reducible refine s_or ?_)
  | (with_reducible refine s_andV ?_) | (with_reducible refine s_orV ?_) | (with_reducible refine s_notV ?_) | (with_reducible refine s_ifE ?_) | (with_reducible refine s_bl ?_) | (with_reducible refine s_iT ?_) | (with_reducible refine s_iF ?_)
  | (with_reducible refine s_I0 ?_) | (with_reducible refine s_U ?_) | (with_reducible refine s_addI ?_) | (with_reducible refine s_eqI ?_) | (with_reducible refine s_eqS ?_) | (with_reducible refine s_eqB ?_) | (with_reducible refine s_neI ?_) | (with_reducible refine s_neS ?_) | (with_reducible refine s_neB ?_))
local macro_rules | `(tactic| walk_at "uz2") => `(tactic| first
  | walk_at "uz0" | (with_reducible refine s_dput ?_) | ((with_reducible refine' s_mod ?hc ?_); (case hc => first | decide | assumption | omega))
  | (with_reducible refine s_for ?_) | (with_reducible refine s_lc ?_) | (with_reducible refine s_bm ?_) | (with_reducible refine s_ilt ?_) | (with_reducible refine s_izx ?_) | (with_reducible refine s_ienum ?_) | (with_reducible refine s_din ?_) | (with_reducible refine s_dnotin ?_) | (with_reducible refine s_itl ?_) | (with_reducible refine s_itt ?_) | (with_reducible refine s_its ?_) | (with_reducible refine s_itr ?_) | (with_reducible refine s_itr2 ?_) | (with_reducible refine s_disp ?_) | (with_reducible refine s_prn ?_) | (with_reducible refine s_prc ?_) | (with_reducible refine s_m1 ?_) | (with_reducible refine s_isS ?_) | (with_reducible refine s_um1 ?_) | (with_reducible refine s_isB ?_) | (with_reducible refine s_isn ?_) | (with_reducible refine s_notn ?_) | (with_reducible refine s_jd ?_) | (with_reducible refine s_jn ?_) | (with_reducible refine s_jc ?_) | (with_reducible refine s_fmt ?_) | (with_reducible refine s_gc ?_) | (with_reducible refine s_gnil ?_) | (with_reducible refine s_yes ?_) | (with_reducible refine s_raise ?_)
  | ((with_reducible refine' s_pow ?hc ?_); (case hc => exact ⟨by decide, by decide, by decide⟩)) | (with_reducible refine s_int ?_) | (with_reducible refine s_intB ?_) | (with_reducible refine s_strS ?_) | (with_reducible refine s_abs ?_) | (with_reducible refine s_max ?_) | (with_reducible refine s_min ?_) | (with_reducible refine s_gcd ?_)
  | (with_reducible refine s_chain ?_) | (with_reducible refine s_sl ?_) | (with_reducible refine s_noP ?_) | (with_reducible refine s_part ?_) | (with_reducible refine s_exI ?_) 
  | ((with_reducible refine' s_mulI ?hc ?_); (case hc => first | exact Or.inl (Or.inr ⟨by decide, by decide⟩) | exact Or.inl (Or.inl ⟨by decide, by decide⟩) | exact Or.inl (Or.inl ⟨by omega, by omega⟩) | exact Or.inl (Or.inr ⟨by omega, by omega⟩) | walk_at "umul"))
  | ((with_reducible refine' s_ixT ?hc ?hd ?_); (case hc => assumption); (case hd => rfl))
  | ((with_reducible refine' s_lenL ?hc ?_); (case hc => first | assumption | exact SqL.of (by assumption))) | ((with_reducible refine' s_lenT ?hc ?_); (case hc => first | assumption | exact SqT.of (by assumption)))
  | ((with_reducible refine' s_divP ?hc ?hd ?_); (case hc => first | decide | assumption | omega); (case hd => first | decide +kernel | assumption)))
local macro_rules | `(tactic| walk_at "uz1") => `(tactic| first
  | walk_at "uz2" | ((with_reducible refine' s_ixL ?hc ?hd ?_); (case hc => first | assumption | exact SqL.of (by assumption)); (case hd => rfl)) | ((with_reducible refine' s_ixT ?hc ?hd ?_); (case hc => exact SqT.of (by assumption)); (case hd => rfl))
  | ((with_reducible refine' s_intS ?hc ?hd ?_); (case hc => assumption); (case hd => assumption)) | ((with_reducible refine' s_lenS ?hc ?_); (case hc => assumption)))
local macro_rules | `(tactic| walk_at "uz") => `(tactic| ((repeat walk_at "uz1"); repeat ((first | (refine s_iF ?_) | (refine s_iT ?_)); (repeat walk_at "uz1"))))
theorem isi_dict {K : PySem.W.Frag} {H : Hp} {Q : VK} {a : Addr} (ha : H a = some (.dK [])) (q : Q (.bl false) H) : rIsi K [.ref a, .ty "str"] H Q :=
  ⟨_, _, _, _, false, rfl, .ty _, .base (.dK ha), kit_ty (show kitB "dict" "str" = some false from by decide +kernel), q⟩
section
variable {P : Program} {w : World} {K : PySem.W.Frag} {mg : Str → Option Value} {base : Heap}
variable {cE cH cU cW : Addr}
theorem ok_is_name (T : Tp P K mg cE cH cU cW)
    {f : Addr} {fd : FuncData} {dvs : List V} (F : FunD K "is_name" "is_name" (defArgs s_is_name) (defBody s_is_name) (defScope s_is_name) dvs [] f fd) : FnG P w K mg base 1 f fd P_is_name (spIsName K) := by
  refine fng F sc_is_name (by walk_at "ulen") (fun cdv A outer s H vs Q E hr0 hg0 h => ?_)
  have hr : Rm 0 (A.deeper (envOfC "is_name" (defScope s_is_name) s.heap.objs.size f cdv)) := ⟨hr0, hg0⟩
  have nd : N_is_name.Nodup := sc_is_name.nd
  have po : PassesOwn (model P w) (cxOf (L2.CX P w) P w K mg base N_is_name "is_name" (defScope s_is_name) f cdv A outer s H E).A (cxOf (L2.CX P w) P w K mg base N_is_name "is_name" (defScope s_is_name) f cdv A outer s H E).env (cxOf (L2.CX P w) P w K mg base N_is_name "is_name" (defScope s_is_name) f cdv A outer s H E).xe := passes_of rfl
  refine ⟨_, (pss_consJ (ps_if (PW.pt (pw_or (pt_not (pt_val (pe_callB call_isi (by rfl) T.isinstance b_isinstance (pa_cons (pv 0) (pa_cons (pe_bltn (v := .ty "str") (by rfl) T.str b_str rfl) pa_nil))))) (pw_or (pt_not (pt_chain op_le op_le pe_int (pe_callB call_uLen (by rfl) T.len b_len (pa_cons (pv 0) pa_nil)) pe_int)) (pw_or1 (pt_cmpR op_in_seq (pv 0) (pe_gR T.g_WORDS) rfl))))) (pss_one (ps_ret pe_bl)) pss_nil)
    (pss_cons (ps_for po rfl (pi_str (pv 0)) (pg_name (i := 1) nd rfl (Or.inl rfl))
    (pss_one (ps_if (pt_cmpR op_uNotIn (pv 1) (pe_gS T.g_LETTERS) rfl) (pss_one (ps_ret pe_bl)) pss_nil)))
    (pss_one (ps_ret pe_bl)))), ?_⟩
  obtain ⟨v, rfl, ⟨d, hd, hl, k⟩ | ⟨⟨a, rfl, ha⟩, k⟩⟩ := h
  · walk_at "uk"
    walk_at "uj"
    refine s_seqJ (fun σ' H' => H = H' ∧ ∃ z, d = .str z ∧ 1 ≤ z.length ∧ z.length ≤ 12 ∧ z ∉ wordsV ∧ v = .str z ∧ σ' = L2.start N_is_name [v]) ?_ (fun R hR => ?_)
    · rintro σ' _ ⟨rfl, z, rfl, l1, l12, nw, rfl, rfl⟩
      walk_at "uy"
      have hn : ∀ b, (z.cps.toList.all fun c => ("abcdefghijklmnopqrstuvwxyz" : Str).cps.toList.contains c) = b → isNameD (.str z) = b := fun b hb => by
        simp only [isNameD]
        rw [hb, decide_eq_true l1, decide_eq_true l12, decide_eq_false nw]
        rfl
      refine loopS (fun i σ' H' => H = H' ∧ (∀ c ∈ z.cps.toList.take i, c ∈ ("abcdefghijklmnopqrstuvwxyz" : Str).cps.toList) ∧ ∃ o, σ' = (L2.start N_is_name [.str z]).set 1 o) ⟨rfl, (fun c h => by simp at h), none, rfl⟩ ?_ ?_
      · rintro σ' _ ⟨rfl, hc, o, rfl⟩
        walk_at "uy"
        rw [List.take_of_length_le (Nat.le_of_eq (TL.len_tl z).symm)] at hc
        rw [hn true (List.all_eq_true.mpr fun c h => by simpa using hc c h)] at k
        exact k
      · rintro i c σ' _ hi ⟨rfl, hc, o, rfl⟩
        walk_at "uy"
        refine s_inS ?_
        rw [Bool.true_xor]
        walk_at "uy"
        have hi2 : z.cps.toList[i]? = some c := by rw [Array.getElem?_toList]; exact hi
        refine s_iteN (fun h1 => ?_) (fun h1 => ?_)
        · walk_at "uy"
          rw [hn false (by
            rw [List.all_eq_false]
            exact ⟨c, List.mem_of_getElem? hi2, by simpa using h1⟩)] at k
          exact k
        · walk_at "uy"
          refine ⟨rfl, fun d hd => ?_, _, rfl⟩
          rw [List.take_add_one, hi2] at hd
          rcases List.mem_append.mp hd with hd | hd
          · exact hc d hd
          · simp at hd
            rw [hd]; exact h1
    · walk_at "uy"
      refine s_isStr hd ?_
      cases hd with
      | str z =>
        walk_at "uy"
        refine s_lenS (by show _ ≤ 16777216; have : z.length ≤ 10000 := hl; omega) ?_
        walk_at "uy"
        refine s_ite (fun h1 => ?_) (fun h1 => ?_)
        · walk_at "uy"
          refine s_iteN (fun h2 => ?_) (fun h2 => ?_)
          · walk_at "uy"
            rw [show isNameD (.str z) = false by simp only [isNameD]; rw [decide_eq_false (show ¬ z.length ≤ 12 by omega)]; simp] at k
            exact k
          · walk_at "uy"
            refine ⟨cW, _, rfl, .inr (T.tW _), rfl, flat_strs _, ?_⟩
            walk_at "uy"
            rw [inV_strs]
            refine s_ite (fun h3 => ?_) (fun h3 => ?_)
            · walk_at "uy"
              rw [show isNameD (.str z) = false by simp only [isNameD]; rw [decide_eq_true h3]; simp] at k
              exact k
            · walk_at "uy"
              exact hR _ _ ⟨rfl, z, rfl, by omega, by omega, h3, rfl, rfl⟩
        · walk_at "uy"
          rw [show isNameD (.str z) = false by simp only [isNameD]; rw [decide_eq_false (show ¬ 1 ≤ z.length by omega)]; simp] at k
          exact k
      | _ =>
        walk_at "uy"
        exact k
  · walk_at "uk"
    walk_at "uj"
    refine s_seqJ (fun _ _ => False) (fun _ _ h => h.elim) (fun R hR => ?_)
    walk_at "uy"
    refine isi_dict ha ?_
    walk_at "uy"
    exact k
end
end Lw

set_option Elab.async false
set_option linter.all false
set_option maxRecDepth 100000
set_option maxHeartbeats 4000000
namespace Lw
open PySem PySem.Spec L2 Uv
open PyProof.Rows hiding St
local macro_rules | `(tactic| walk_at "umul") => `(tactic| fail)
local macro_rules | `(tactic| walk_at "us1") => `(tactic| first
  | (with_reducible refine s_seq ?_) | (with_reducible refine s_asg ?_) | (with_reducible refine s_gn ?_) | (with_reducible refine s_ret ?_) | (with_reducible refine s_drop ?_) | (with_reducible refine s_if ?_) | (with_reducible refine s_next ?_)
  | (with_reducible refine s_brk ?_) | (with_reducible refine s_cont ?_)
  | ((with_reducible refine' s_var ?hv ?_); (case hv => exact rfl)) | (with_reducible refine s_c ?_) | (with_reducible refine s_op ?_) | (with_reducible refine s_un ?_) | (with_reducible refine s_cb ?_) | (with_reducible refine s_call ?_)
  | (with_reducible refine s_cons ?_) | (with_reducible refine s_nil ?_) | (with_reducible refine s_test ?_) | (with_reducible refine s_tB ?_) | (with_reducible refine s_not ?_) | (with_reducible refine s_and ?_) | (with_reducible refine s_or ?_)
  | (with_reducible refine s_andV ?_) | (with_reducible refine s_orV ?_) | (with_reducible refine s_notV ?_) | (with_reducible refine s_ifE ?_) | (with_reducible refine s_bl ?_) | (with_reducible refine s_iT ?_) | (with_reducible refine s_iF ?_)
  | (with_reducible refine s_I0 ?_) | (with_reducible refine s_U ?_) | (with_reducible refine s_addI ?_) | (with_reducible refine s_eqI ?_) | (with_reducible refine s_eqS ?_) | (with_reducible refine s_eqB ?_) | (with_reducible refine s_neI ?_) | (with_reducible refine s_neS ?_) | (with_reducible refine s_neB ?_)
  | (with_reducible refine s_tupE ?_) | (with_reducible refine s_lstE ?_))
local macro_rules | `(tactic| walk_at "us") => `(tactic| repeat walk_at "us1")
local macro_rules | `(tactic| walk_at "ulen") => `(tactic| (intro vs H Q E h; repeat' (first | (obtain ⟨e, _⟩ := h; subst e; rfl) | (subst h; rfl) | (refine Or.elim h (fun h => ?_) (fun h => ?_)) | (obtain ⟨_, h⟩ := h))))
local macro_rules | `(tactic| walk_at "uk") => `(tactic| (try dsimp only [cxOf, Cx.suite, Cx.tr]))
local macro_rules | `(tactic| walk_at "us2") => `(tactic| first
  | walk_at "us1" | (with_reducible refine s_dput ?_) | ((with_reducible refine' s_mod ?hc ?_); (case hc => first | decide | assumption | omega))
  | (with_reducible refine s_for ?_) | (with_reducible refine s_lc ?_) | (with_reducible refine s_bm ?_) | (with_reducible refine s_ilt ?_) | (with_reducible refine s_izx ?_) | (with_reducible refine s_ienum ?_) | (with_reducible refine s_din ?_) | (with_reducible refine s_dnotin ?_) | (with_reducible refine s_itl ?_) | (with_reducible refine s_itt ?_) | (with_reducible refine s_its ?_) | (with_reducible refine s_itr ?_) | (with_reducible refine s_itr2 ?_) | (with_reducible refine s_disp ?_) | (with_reducible refine s_prn ?_) | (with_reducible refine s_prc ?_) | (with_reducible refine s_m1 ?_) | (with_reducible refine s_isS ?_) | (with_reducible refine s_um1 ?_) | (with_reducible refine s_isB ?_) | (with_reducible refine s_isn ?_) | (with_reducible refine s_notn ?_) | (with_reducible refine s_jd ?_) | (with_reducible refine s_jn ?_) | (with_reducible refine s_jc ?_) | (with_reducible refine s_fmt ?_) | (with_reducible refine s_gc ?_) | (with_reducible refine s_gnil ?_) | (with_reducible refine s_yes ?_) | (with_reducible refine s_raise ?_)
  | ((with_reducible refine' s_pow ?hc ?_); (case hc => exact ⟨by decide, by decide, by decide⟩)) | (with_reducible refine s_int ?_) | (with_reducible refine s_intB ?_) | (with_reducible refine s_strS ?_) | (with_reducible refine s_abs ?_) | (with_reducible refine s_max ?_) | (with_reducible refine s_min ?_) | (with_reducible refine s_gcd ?_)
  | (with_reducible refine s_chain ?_) | (with_reducible refine s_sl ?_) | (with_reducible refine s_noP ?_) | (with_reducible refine s_part ?_) | (with_reducible refine s_exI ?_) 
  | ((with_reducible refine' s_mulI ?hc ?_); (case hc => first | exact Or.inl (Or.inr ⟨by decide, by decide⟩) | exact Or.inl (Or.inl ⟨by decide, by decide⟩) | exact Or.inl (Or.inl ⟨by omega, by omega⟩) | exact Or.inl (Or.inr ⟨by omega, by omega⟩) | walk_at "umul"))
  | ((with_reducible refine' s_ixT ?hc ?hd ?_); (case hc => assumption); (case hd => rfl))
  | ((with_reducible refine' s_lenL ?hc ?_); (case hc => first | assumption | exact SqL.of (by assumption))) | ((with_reducible refine' s_lenT ?hc ?_); (case hc => first | assumption | exact SqT.of (by assumption)))
  | ((with_reducible refine' s_divP ?hc ?hd ?_); (case hc => first | decide | assumption | omega); (case hd => first | decide +kernel | assumption)))
local macro_rules | `(tactic| walk_at "us") => `(tactic| repeat walk_at "us2")
local macro_rules | `(tactic| walk_at "uj") => `(tactic| ((walk_at "us"); with_reducible refine s_J ?_))
local macro_rules | `(tactic| walk_at "ua") => `(tactic| ((walk_at "us"); repeat ((first | (refine s_iF ?_) | (refine s_iT ?_)); (walk_at "us"))))
local macro_rules | `(tactic| walk_at "ub") => `(tactic| walk_at "ua")
local macro_rules | `(tactic| walk_at "ux1") => `(tactic| first
  | walk_at "us2" | ((with_reducible refine' s_ixL ?hc ?hd ?_); (case hc => first | assumption | exact SqL.of (by assumption)); (case hd => rfl)) | ((with_reducible refine' s_ixT ?hc ?hd ?_); (case hc => exact SqT.of (by assumption)); (case hd => rfl))
  | ((with_reducible refine' s_intS ?hc ?hd ?_); (case hc => assumption); (case hd => assumption)) | ((with_reducible refine' s_lenS ?hc ?_); (case hc => assumption)))
local macro_rules | `(tactic| walk_at "ux") => `(tactic| repeat walk_at "ux1")
local macro_rules | `(tactic| walk_at "uy") => `(tactic| ((walk_at "ux"); repeat ((first | (refine s_iF ?_) | (refine s_iT ?_)); (walk_at "ux"))))
local macro_rules | `(tactic| walk_at "uz0") => `(tactic| first
  | (with_reducible refine s_seq ?_) | (with_reducible refine s_asg ?_) | (with_reducible refine s_gn ?_) | (with_reducible refine s_ret ?_) | (with_reducible refine s_drop ?_) | (with_reducible refine s_if ?_) | (with_reducible refine s_next ?_)
  | (with_reducible refine s_brk ?_) | (with_reducible refine s_cont ?_)
  | ((with_reducible refine' s_var ?hv ?_); (case hv => exact rfl)) | (with_reducible refine s_c ?_) | (with_reducible refine s_op ?_) | (with_reducible refine s_un ?_) | (with_reducible refine s_cb ?_) | (with_reducible refine s_call ?_)
  | (with_reducible refine s_cons ?_) | (with_reducible refine s_nil ?_) | (with_reducible refine s_test ?_) | (with_reducible refine s_tB ?_) | (with_reducible refine s_not ?_) | (with_reducible refine s_and ?_) | (with_reducible refine s_or ?_)
  | (with_reducible refine s_andV ?_) | (with_reducible refine s_orV ?_) | (with_reducible refine s_notV ?_) | (with_reducible refine s_ifE ?_) | (with_reducible refine s_bl ?_) | (with_reducible refine s_iT ?_) | (with_reducible refine s_iF ?_)
  | (with_reducible refine s_I0 ?_) | (with_reducible refine s_U ?_) | (with_reducible refine s_addI ?_) | (with_reducible refine s_eqI ?_) | (with_reducible refine s_eqS ?_) | (with_reducible refine s_eqB ?_) | (with_reducible refine s_neI ?_) | (with_reducible refine s_neS ?_) | (with_reducible refine s_neB ?_))
local macro_rules | `(tactic| walk_at "uz2") => `(tactic| first
  | walk_at "uz0" | (with_reducible refine s_dput ?_) | ((with_reducible refine' s_mod ?hc ?_); (case hc => first | decide | assumption | omega))
  | (with_reducible refine s_for ?_) | (with_reducible refine s_lc ?_) | (with_reducible refine s_bm ?_) | (with_reducible refine s_ilt ?_) | (with_reducible refine s_izx ?_) | (with_reducible refine s_ienum ?_) | (with_reducible refine s_din ?_) | (with_reducible refine s_dnotin ?_) | (with_reducible refine s_itl ?_) | (with_reducible refine s_itt ?_) | (with_reducible refine s_its ?_) | (with_reducible refine s_itr ?_) | (with_reducible refine s_itr2 ?_) | (with_reducible refine s_disp ?_) | (with_reducible refine s_prn ?_) | (with_reducible refine s_prc ?_) | (with_reducible refine s_m1 ?_) | (with_reducible refine s_isS ?_) | (with_reducible refine s_um1 ?_) | (with_reducible refine s_isB ?_) | (with_reducible refine s_isn ?_) | (with_reducible refine s_notn ?_) | (with_reducible refine s_jd ?_) | (with_reducible refine s_jn ?_) | (with_reducible refine s_jc ?_) | (with_reducible refine s_fmt ?_) | (with_reducible refine s_gc ?_) | (with_reducible refine s_gnil ?_) | (with_reducible refine s_yes ?_) | (with_reducible refine s_raise ?_)
  | ((with_reducible refine' s_pow ?hc ?_); (case hc => exact ⟨by decide, by decide, by decide⟩)) | (with_reducible refine s_int ?_) | (with_reducible refine s_intB ?_) | (with_reducible refine s_strS ?_) | (with_reducible refine s_abs ?_) | (with_reducible refine s_max ?_) | (with_reducible refine s_min ?_) | (with_reducible refine s_gcd ?_)
  | (with_reducible refine s_chain ?_) | (with_reducible refine s_sl ?_) | (with_reducible refine s_noP ?_) | (with_reducible refine s_part ?_) | (with_reducible refine s_exI ?_) 
  | ((with_reducible refine' s_mulI ?hc ?_); (case hc => first | exact Or.inl (Or.inr ⟨by decide, by decide⟩) | exact Or.inl (Or.inl ⟨by decide, by decide⟩) | exact Or.inl (Or.inl ⟨by omega, by omega⟩) | exact Or.inl (Or.inr ⟨by omega, by omega⟩) | walk_at "umul"))
  | ((with_reducible refine' s_ixT ?hc ?hd ?_); (case hc => assumption); (case hd => rfl))
  | ((with_reducible refine' s_lenL ?hc ?_); (case hc => first | assumption | exact SqL.of (by assumption))) | ((with_reducible refine' s_lenT ?hc ?_); (case hc => first | assumption | exact SqT.of (by assumption)))
  | ((with_reducible refine' s_divP ?hc ?hd ?_); (case hc => first | decide | assumption | omega); (case hd => first | decide +kernel | assumption)))
local macro_rules | `(tactic| walk_at "uz1") => `(tactic| first
  | walk_at "uz2" | ((with_reducible refine' s_ixL ?hc ?hd ?_); (case hc => first | assumption | exact SqL.of (by assumption)); (case hd => rfl)) | ((with_reducible refine' s_ixT ?hc ?hd ?_); (case hc => exact SqT.of (by assumption)); (case hd => rfl))
  | ((with_reducible refine' s_intS ?hc ?hd ?_); (case hc => assumption); (case hd => assumption)) | ((with_reducible refine' s_lenS ?hc ?_); (case hc => assumption)))
local macro_rules | `(tactic| walk_at "uz") => `(tactic| ((repeat walk_at "uz1"); repeat ((first | (refine s_iF ?_) | (refine s_iT ?_)); (repeat walk_at "uz1"))))
def own12 (k : Nat) (z : Str) : Str := ⟨((109 + k) :: (z.cps.toList ++ List.replicate 12 113)).take 12 |>.toArray⟩
theorem own12_len (k : Nat) (z : Str) : (own12 k z).length = 12 := by
  show (List.take 12 _).toArray.size = 12
  rw [List.size_toArray, List.length_take, List.length_cons, List.length_append, List.length_replicate]
  omega
theorem words12 : ∀ w ∈ wordsV, w.length ≤ 11 := by
  have h : wordsV.all (fun w => decide (w.length ≤ 11)) = true := by decide +kernel
  intro w hw
  simpa using List.all_eq_true.mp h w hw
theorem own12_is {k : Nat} {z : Str} (hk : k < 8) (hz : low z) : NameIs (own12 k z) := by
  refine ⟨by rw [own12_len]; decide, by rw [own12_len]; decide, fun c hc => ?_, fun h => by have := words12 _ h; rw [own12_len] at this; omega⟩
  have hc' : c ∈ ((109 + k) :: (z.cps.toList ++ List.replicate 12 113)).take 12 := hc
  rcases List.mem_cons.mp (List.mem_of_mem_take hc') with h | h
  · omega
  · rcases List.mem_append.mp h with h | h
    · exact hz c h
    · have := (List.mem_replicate.mp h).2
      omega
theorem own12_first (k : Nat) (z : Str) : (own12 k z).cps.toList.head? = some (109 + k) := rfl
theorem own12_nd : ∀ (zs : List Str) (k : Nat), ((zs.zipIdx k).map fun x => own12 x.2 x.1).Nodup
  | [], _ => List.nodup_nil
  | z :: r, k => by
    rw [List.zipIdx_cons, List.map_cons, List.nodup_cons]
    refine ⟨fun h => ?_, own12_nd r (k + 1)⟩
    obtain ⟨⟨y, j⟩, hm, e⟩ := List.mem_map.mp h
    have hj := (List.mem_zipIdx hm).1
    have := congrArg (fun x : Str => x.cps.toList.head?) e
    simp only [own12_first] at this
    simp at this
    omega
theorem lett8 (k : Nat) (hk : k < 8) : atI (("mnopqrst" : Str)).cps.toList (k : Int) = some (109 + k) := by
  have h : ∀ j : Fin 8, (("mnopqrst" : Str)).cps.toList[j.val]? = some (109 + j.val) := by decide +kernel
  exact atI_nat (h ⟨k, hk⟩)
theorem own12_eq (k : Nat) (z : Str) : cutS ((⟨#[109 + k]⟩ : Str) ++ z ++ "qqqqqqqqqqqq") none (some 12) = own12 k z := by
  refine TL.ext_tl ?_
  have hl : (((⟨#[109 + k]⟩ : Str) ++ z ++ "qqqqqqqqqqqq")).length ≥ 12 := by
    rw [app_len, app_len]
    show 12 ≤ _ + _ + 12
    omega
  show (((((⟨#[109 + k]⟩ : Str) ++ z ++ "qqqqqqqqqqqq").cps.toList.drop (HT.sIx _ 0 none)).take (HT.sIx _ _ (some 12) - HT.sIx _ 0 none))).toArray.toList = _
  rw [HT.sIx_none, show HT.sIx ((⟨#[109 + k]⟩ : Str) ++ z ++ "qqqqqqqqqqqq").length ((⟨#[109 + k]⟩ : Str) ++ z ++ "qqqqqqqqqqqq").length (some 12) = min 12 _ from HT.sIx_nat _ _ 12, Nat.min_eq_left hl]
  show List.take (12 - 0) (TL.tl ((⟨#[109 + k]⟩ : Str) ++ z ++ "qqqqqqqqqqqq")) = _
  rw [TL.tl_append, TL.tl_append]
  rfl
section
variable {P : Program} {w : World} {K : PySem.W.Frag} {mg : Str → Option Value} {base : Heap}
variable {cE cH cU cW : Addr}
theorem ok_l_own_names (T : Tp P K mg cE cH cU cW)
    (c_l_names_of : Cal P w K mg base 3 "_law_names_of" P_l_names_of [] (spNamesOf))
    (c_l_one_in : Cal P w K mg base 2 "_law_one_in" P_l_one_in [] (spOne))
    (c_l_pick : Cal P w K mg base 1 "_law_pick" P_l_pick [] (spPick))
    {f : Addr} {fd : FuncData} {dvs : List V} (F : FunD K "_law_own_names" "_law_own_names" (defArgs s_l_own_names) (defBody s_l_own_names) (defScope s_l_own_names) dvs [] f fd) : FnG P w K mg base 4 f fd P_l_own_names (spOwnNames) := by
  refine fng F sc_l_own_names (by walk_at "ulen") (fun cdv A outer s H vs Q E hr0 hg0 h => ?_)
  have hr : Rm 3 (A.deeper (envOfC "_law_own_names" (defScope s_l_own_names) s.heap.objs.size f cdv)) := ⟨hr0, hg0⟩
  have nd : N_l_own_names.Nodup := sc_l_own_names.nd
  obtain ⟨b, rfl, hb, k⟩ := h
  refine ⟨_, (pss_cons (ps_set (i := 1) nd rfl (Or.inr rfl) (pe_c (E := En) c_l_names_of (hr.mono (by decide)) paN (pa_cons (pv 0) (pa_cons (pe_op op_uAdd pe_int (pe_c (E := En) c_l_pick (hr.mono (by decide)) paN (pa_cons (pv 0) (pa_cons pe_int pa_nil)))) pa_nil))))
    (pss_cons (ps_if (pt_val (pe_c (E := En) c_l_one_in (hr.mono (by decide)) paN (pa_cons (pv 0) (pa_cons pe_int pa_nil)))) (pss_one (ps_set (i := 1) nd rfl (Or.inr rfl) (pe_lc (own := [("_law_k", 2)]) (g := gName 2) (by rfl) nd (pi_range1 (by rfl) T.range (pa_cons (pe_callB call_uLen (by rfl) T.len b_len (pa_cons (pv 1) pa_nil)) pa_nil)) (blkOk_by (own := [("_law_k", 2)]) (N := N_l_own_names) (sc := defScope s_l_own_names) (by decide +kernel)) (fun s_ H_ C_ cl_ fp_ => pg_name (i := 2) nd rfl (Or.inl rfl)) (fun s_ H_ C_ cl_ fp_ => pts_nil) (fun s_ H_ C_ cl_ fp_ => (pe_slice (sl_uK (K := K) rfl) (pe_op (op_uAddK (K := K) rfl) (pe_op (op_uAddK (K := K) rfl) (pe_ix (ix_seqK (K := K) rfl) pe_str (pv 2) (fun _ _ => rfl)) (pe_ix (ix_seqK (K := K) rfl) (pv 1) (pv 2) (fun _ _ => rfl))) pe_str) po_none (po_some pe_int)))))) pss_nil)
    (pss_one (ps_ret (pv 1))))), ?_⟩
  walk_at "uk"
  walk_at "uy"
  refine ⟨b, 6, rfl, hb, by decide, by decide, fun r H1 r0 r1 k1 => ?_⟩
  walk_at "uy"
  refine ⟨b, _, rfl, k1.b1, by omega, by omega, fun p zs H2 hl N k2 hp => ?_⟩
  have k3 := k1.tr k2
  walk_at "uy"
  refine ⟨b, 3, rfl, k3.b1, by decide, by decide, fun x H3 k4 => ?_⟩
  have hp3 := k4.at hp fun _ z => by cases z
  have k5 := k3.tr k4
  refine s_if1 (x := x) (fun hx => ?_) (fun hx => ?_)
  · rw [hx]
    walk_at "uy"
    refine ⟨_, rfl, by rw [List.length_map]; omega, by rw [List.length_map]; omega, ?_⟩
    have l8 : (("mnopqrst" : Str)).length ≤ sizeLine := by decide +kernel
    have lq : (("qqqqqqqqqqqq" : Str)).length = 12 := rfl
    refine lcRng (n := ((zs.map V.str).length : Int).toNat) (fun D i acc H' => Ex H3 H' ∧ H' D = some (.lst acc) ∧ acc = (((zs.zipIdx).map fun x => own12 x.2 x.1).take i).map V.str) (fun D n => ⟨exN n, upd_same, rfl⟩) ?_ ?_
    · rintro D acc H4 nD ⟨e4, hD, rfl⟩
      have lz : ((zs.zipIdx).map fun x => own12 x.2 x.1).length = zs.length := by rw [List.length_map, List.length_zipIdx]
      rw [List.take_of_length_le (by rw [lz, List.length_map]; omega)] at hD
      walk_at "uy"
      refine k D _ H4 (by rw [lz]; omega) (by rw [lz]; omega) ⟨own12_nd zs 0, fun y hy => ?_⟩ (k5.tr (e4.kb k5.b1)) hD
      obtain ⟨⟨z, j⟩, hm, rfl⟩ := List.mem_map.mp hy
      have hj := List.mem_zipIdx hm
      have hzm : z ∈ zs := by
        have := hj.2.2
        rw [this]
        exact List.getElem_mem _
      exact own12_is (by have := hj.2.1; omega) (N.each z hzm).low
    · rintro D i acc H4 nD hi ⟨e4, hD, rfl⟩
      have hi' : i < zs.length := by rw [List.length_map] at hi; omega
      obtain ⟨z, hz⟩ : ∃ n, zs[i]? = some n := ⟨_, List.getElem?_eq_getElem hi'⟩
      have an : atI (zs.map V.str) (0 + (i : Int)) = some (.str z) := by rw [Int.zero_add]; exact atI_nat (by rw [List.getElem?_map, hz]; rfl)
      have a8 : atI (("mnopqrst" : Str)).cps.toList (0 + (i : Int)) = some (109 + i) := by rw [Int.zero_add]; exact lett8 i (by omega)
      have zl := (N.each z (List.mem_of_getElem? hz)).l2
      have o1 : (⟨#[109 + i]⟩ : Str).length = 1 := rfl
      refine ⟨rfl, s_yes (s_iT ?_)⟩
      walk_at "uy"
      refine s_ixS l8 a8 ?_
      walk_at "uy"
      refine s_ixL (.of (e4 _ _ hp3)) an ?_
      refine s_addS (by rw [o1]; show _ ≤ 16777216; omega) ?_
      walk_at "uy"
      refine s_addS (by rw [app_len, o1, lq]; show _ ≤ 16777216; omega) ?_
      walk_at "uy"
      refine s_slS (by rw [app_len, app_len, o1, lq]; show _ ≤ 16777216; omega) ?_
      rw [own12_eq]
      refine ⟨_, hD, by rw [List.length_map, List.length_take, List.length_map, List.length_zipIdx]; show _ < 16777216; omega, _, ex_put nD e4, upd_same, ?_⟩
      rw [List.take_add_one, List.getElem?_map, List.getElem?_zipIdx, hz, List.map_append, Nat.zero_add]
      rfl
  · rw [hx]
    walk_at "uy"
    exact k p zs H3 (by omega) (by omega) N k5 hp3
end
end Lw

set_option Elab.async false
set_option linter.all false
set_option maxRecDepth 100000
set_option maxHeartbeats 4000000
namespace Lw
open PySem PySem.Spec L2 Uv
open PyProof.Rows hiding St
local macro_rules | `(tactic| walk_at "umul") => `(tactic| fail)
local macro_rules | `(tactic| walk_at "us1") => `(tactic| first
  | (with_reducible refine s_seq ?_) | (with_reducible refine s_asg ?_) | (with_reducible refine s_gn ?_) | (with_reducible refine s_ret ?_) | (with_reducible refine s_drop ?_) | (with_reducible refine s_if ?_) | (with_reducible refine s_next ?_)
  | (with_reducible refine s_brk ?_) | (with_reducible refine s_cont ?_)
  | ((with_reducible refine' s_var ?hv ?_); (case hv => exact rfl)) | (with_reducible refine s_c ?_) | (with_reducible refine s_op ?_) | (with_reducible refine s_un ?_) | (with_reducible refine s_cb ?_) | (with_reducible refine s_call ?_)
  | (with_reducible refine s_cons ?_) | (with_reducible refine s_nil ?_) | (with_reducible refine s_test ?_) | (with_reducible refine s_tB ?_) | (with_reducible refine s_not ?_) | (with_reducible refine s_and ?_) | (with_reducible refine s_or ?_)
  | (with_reducible refine s_andV ?_) | (with_reducible refine s_orV ?_) | (with_reducible refine s_notV ?_) | (with_reducible refine s_ifE ?_) | (with_reducible refine s_bl ?_) | (with_reducible refine s_iT ?_) | (with_reducible refine s_iF ?_)
  | (with_reducible refine s_I0 ?_) | (with_reducible refine s_U ?_) | (with_reducible refine s_addI ?_) | (with_reducible refine s_eqI ?_) | (with_reducible refine s_eqS ?_) | (with_reducible refine s_eqB ?_) | (with_reducible refine s_neI ?_) | (with_reducible refine s_neS ?_) | (with_reducible refine s_neB ?_)
  | (with_reducible refine s_tupE ?_) | (with_reducible refine s_lstE ?_))
local macro_rules | `(tactic| walk_at "us") => `(tactic| repeat walk_at "us1")
local macro_rules | `(tactic| walk_at "ulen") => `(tactic| (intro vs H Q E h; repeat' (first | (obtain ⟨e, _⟩ := h; subst e; rfl) | (subst h; rfl) | (refine Or.elim h (fun h => ?_) (fun h => ?_)) | (obtain ⟨_, h⟩ := h))))
local macro_rules | `(tactic| walk_at "uk") => `(tactic| (try dsimp only [cxOf, Cx.suite, Cx.tr]))
local macro_rules | `(tactic| walk_at "us2") => `(tactic| first
  | walk_at "us1" | (with_reducible refine s_dput ?_) | ((with_reducible refine' s_mod ?hc ?_); (case hc => first | decide | assumption | omega))
  | (with_reducible refine s_for ?_) | (with_reducible refine s_lc ?_) | (with_reducible refine s_bm ?_) | (with_reducible refine s_ilt ?_) | (with_reducible refine s_izx ?_) | (with_reducible refine s_ienum ?_) | (with_reducible refine s_din ?_) | (with_reducible refine s_dnotin ?_) | (with_reducible refine s_itl ?_) | (with_reducible refine s_itt ?_) | (with_reducible refine s_its ?_) | (with_reducible refine s_itr ?_) | (with_reducible refine s_itr2 ?_) | (with_reducible refine s_disp ?_) | (with_reducible refine s_prn ?_) | (with_reducible refine s_prc ?_) | (with_reducible refine s_m1 ?_) | (with_reducible refine s_isS ?_) | (with_reducible refine s_um1 ?_) | (with_reducible refine s_isB ?_) | (with_reducible refine s_isn ?_) | (with_reducible refine s_notn ?_) | (with_reducible refine s_jd ?_) | (with_reducible refine s_jn ?_) | (with_reducible refine s_jc ?_) | (with_reducible refine s_fmt ?_) | (with_reducible refine s_gc ?_) | (with_reducible refine s_gnil ?_) | (with_reducible refine s_yes ?_) | (with_reducible refine s_raise ?_)
  | ((with_reducible refine' s_pow ?hc ?_); (case hc => exact ⟨by decide, by decide, by decide⟩)) | (with_reducible refine s_int ?_) | (with_reducible refine s_intB ?_) | (with_reducible refine s_strS ?_) | (with_reducible refine s_abs ?_) | (with_reducible refine s_max ?_) | (with_reducible refine s_min ?_) | (with_reducible refine s_gcd ?_)
  | (with_reducible refine s_chain ?_) | (with_reducible refine s_sl ?_) | (with_reducible refine s_noP ?_) | (with_reducible refine s_part ?_) | (with_reducible refine s_exI ?_) 
  | ((with_reducible refine' s_mulI ?hc ?_); (case hc => first | exact Or.inl (Or.inr ⟨by decide, by decide⟩) | exact Or.inl (Or.inl ⟨by decide, by decide⟩) | exact Or.inl (Or.inl ⟨by omega, by omega⟩) | exact Or.inl (Or.inr ⟨by omega, by omega⟩) | walk_at "umul"))
  | ((with_reducible refine' s_ixT ?hc ?hd ?_); (case hc => assumption); (case hd => rfl))
  | ((with_reducible refine' s_lenL ?hc ?_); (case hc => first | assumption | exact SqL.of (by assumption))) | ((with_reducible refine' s_lenT ?hc ?_); (case hc => first | assumption | exact SqT.of (by assumption)))
  | ((with_reducible refine' s_divP ?hc ?hd ?_); (case hc => first | decide | assumption | omega); (case hd => first | decide +kernel | assumption)))
local macro_rules | `(tactic| walk_at "us") => `(tactic| repeat walk_at "us2")
local macro_rules | `(tactic| walk_at "uj") => `(tactic| ((walk_at "us"); with_reducible refine s_J ?_))
local macro_rules | `(tactic| walk_at "ua") => `(tactic| ((walk_at "us"); repeat ((first | (refine s_iF ?_) | (refine s_iT ?_)); (walk_at "us"))))
local macro_rules | `(tactic| walk_at "ub") => `(tactic| walk_at "ua")
local macro_rules | `(tactic| walk_at "ux1") => `(tactic| first
  | walk_at "us2" | ((with_reducible refine' s_ixL ?hc ?hd ?_); (case hc => first | assumption | exact SqL.of (by assumption)); (case hd => rfl)) | ((with_reducible refine' s_ixT ?hc ?hd ?_); (case hc => exact SqT.of (by assumption)); (case hd => rfl))
  | ((with_reducible refine' s_intS ?hc ?hd ?_); (case hc => assumption); (case hd => assumption)) | ((with_reducible refine' s_lenS ?hc ?_); (case hc => assumption)))
local macro_rules | `(tactic| walk_at "ux") => `(tactic| repeat walk_at "ux1")
local macro_rules | `(tactic| walk_at "uy") => `(tactic| ((walk_at "ux"); repeat ((first | (refine s_iF ?_) | (refine s_iT ?_)); (walk_at "ux"))))
local macro_rules | `(tactic| walk_at "uz0") => `(tactic| first
  | (with_reducible refine s_seq ?_) | (with_reducible refine s_asg ?_) | (with_reducible refine s_gn ?_) | (with_reducible refine s_ret ?_) | (with_reducible refine s_drop ?_) | (with_reducible refine s_if ?_) | (with_reducible refine s_next ?_)
  | (with_reducible refine s_brk ?_) | (with_reducible refine s_cont ?_)
  | ((with_reducible refine' s_var ?hv ?_); (case hv => exact rfl)) | (with_reducible refine s_c ?_) | (with_reducible refine s_op ?_) | (with_reducible refine s_un ?_) | (with_reducible refine s_cb ?_) | (with_reducible refine s_call ?_)
  | (with_reducible refine s_cons ?_) | (with_reducible refine s_nil ?_) | (with_reducible refine s_test ?_) | (with_reducible refine s_tB ?_) | (with_reducible refine s_not ?_) | (with_reducible refine s_and ?_) | (with_reducible refine s_or ?_)
  | (with_reducible refine s_andV ?_) | (with_reducible refine s_orV ?_) | (with_reducible refine s_notV ?_) | (with_reducible refine s_ifE ?_) | (with_reducible refine s_bl ?_) | (with_reducible refine s_iT ?_) | (with_reducible refine s_iF ?_)
  | (with_reducible refine s_I0 ?_) | (with_reducible refine s_U ?_) | (with_reducible refine s_addI ?_) | (with_reducible refine s_eqI ?_) | (with_reducible refine s_eqS ?_) | (with_reducible refine s_eqB ?_) | (with_reducible refine s_neI ?_) | (with_reducible refine s_neS ?_) | (with_reducible refine s_neB ?_))
local macro_rules | `(tactic| walk_at "uz2") => `(tactic| first
  | walk_at "uz0" | (with_reducible refine s_dput ?_) | ((with_reducible refine' s_mod ?hc ?_); (case hc => first | decide | assumption | omega))
  | (with_reducible refine s_for ?_) | (with_reducible refine s_lc ?_) | (with_reducible refine s_bm ?_) | (with_reducible refine s_ilt ?_) | (with_reducible refine s_izx ?_) | (with_reducible refine s_ienum ?_) | (with_reducible refine s_din ?_) | (with_reducible refine s_dnotin ?_) | (with_reducible refine s_itl ?_) | (with_reducible refine s_itt ?_) | (with_reducible refine s_its ?_) | (with_reducible refine s_itr ?_) | (with_reducible refine s_itr2 ?_) | (with_reducible refine s_disp ?_) | (with_reducible refine s_prn ?_) | (with_reducible refine s_prc ?_) | (with_reducible refine s_m1 ?_) | (with_reducible refine s_isS ?_) | (with_reducible refine s_um1 ?_) | (with_reducible refine s_isB ?_) | (with_reducible refine s_isn ?_) | (with_reducible refine s_notn ?_) | (with_reducible refine s_jd ?_) | (with_reducible refine s_jn ?_) | (with_reducible refine s_jc ?_) | (with_reducible refine s_fmt ?_) | (with_reducible refine s_gc ?_) | (with_reducible refine s_gnil ?_) | (with_reducible refine s_yes ?_) | (with_reducible refine s_raise ?_)
  | ((with_reducible refine' s_pow ?hc ?_); (case hc => exact ⟨by decide, by decide, by decide⟩)) | (with_reducible refine s_int ?_) | (with_reducible refine s_intB ?_) | (with_reducible refine s_strS ?_) | (with_reducible refine s_abs ?_) | (with_reducible refine s_max ?_) | (with_reducible refine s_min ?_) | (with_reducible refine s_gcd ?_)
  | (with_reducible refine s_chain ?_) | (with_reducible refine s_sl ?_) | (with_reducible refine s_noP ?_) | (with_reducible refine s_part ?_) | (with_reducible refine s_exI ?_) 
  | ((with_reducible refine' s_mulI ?hc ?_); (case hc => first | exact Or.inl (Or.inr ⟨by decide, by decide⟩) | exact Or.inl (Or.inl ⟨by decide, by decide⟩) | exact Or.inl (Or.inl ⟨by omega, by omega⟩) | exact Or.inl (Or.inr ⟨by omega, by omega⟩) | walk_at "umul"))
  | ((with_reducible refine' s_ixT ?hc ?hd ?_); (case hc => assumption); (case hd => rfl))
  | ((with_reducible refine' s_lenL ?hc ?_); (case hc => first | assumption | exact SqL.of (by assumption))) | ((with_reducible refine' s_lenT ?hc ?_); (case hc => first | assumption | exact SqT.of (by assumption)))
  | ((with_reducible refine' s_divP ?hc ?hd ?_); (case hc => first | decide | assumption | omega); (case hd => first | decide +kernel | assumption)))
local macro_rules | `(tactic| walk_at "uz1") => `(tactic| first
  | walk_at "uz2" | ((with_reducible refine' s_ixL ?hc ?hd ?_); (case hc => first | assumption | exact SqL.of (by assumption)); (case hd => rfl)) | ((with_reducible refine' s_ixT ?hc ?hd ?_); (case hc => exact SqT.of (by assumption)); (case hd => rfl))
  | ((with_reducible refine' s_intS ?hc ?hd ?_); (case hc => assumption); (case hd => assumption)) | ((with_reducible refine' s_lenS ?hc ?_); (case hc => assumption)))
local macro_rules | `(tactic| walk_at "uz") => `(tactic| ((repeat walk_at "uz1"); repeat ((first | (refine s_iF ?_) | (refine s_iT ?_)); (repeat walk_at "uz1"))))
section
variable {P : Program} {w : World} {K : PySem.W.Frag} {mg : Str → Option Value} {base : Heap}
variable {cE cH cU cW : Addr}
theorem ok_l_exponent (T : Tp P K mg cE cH cU cW)
    (c_l_choice : Cal P w K mg base 2 "_law_choice" P_l_choice [] (spChoice K))
    (c_l_pick : Cal P w K mg base 1 "_law_pick" P_l_pick [] (spPick))
    {f : Addr} {fd : FuncData} {dvs : List V} (F : FunD K "_law_exponent" "_law_exponent" (defArgs s_l_exponent) (defBody s_l_exponent) (defScope s_l_exponent) dvs [] f fd) : FnG P w K mg base 3 f fd P_l_exponent (spExponent) := by
  refine fng F sc_l_exponent (by walk_at "ulen") (fun cdv A outer s H vs Q E hr0 hg0 h => ?_)
  have hr : Rm 2 (A.deeper (envOfC "_law_exponent" (defScope s_l_exponent) s.heap.objs.size f cdv)) := ⟨hr0, hg0⟩
  have nd : N_l_exponent.Nodup := sc_l_exponent.nd
  obtain ⟨b, rfl, hb, k⟩ := h
  refine ⟨_, (pss_cons (ps_set (i := 1) nd rfl (Or.inl rfl) (pe_c (E := En) c_l_pick (hr.mono (by decide)) paN (pa_cons (pv 0) (pa_cons pe_int pa_nil))))
    (pss_cons (ps_if (pt_cmpR (op_uEq hr.r.units) (pv 1) pe_int (nomark _)) (pss_one (ps_ret pe_str)) pss_nil)
    (pss_cons (ps_if (pt_cmpR (op_uEq hr.r.units) (pv 1) pe_int (nomark _)) (pss_one (ps_ret (pe_op op_uAdd pe_str (pe_callTy call_uStr (by rfl) T.str b_str (pa_cons (pe_op op_uAdd pe_int (pe_c (E := En) c_l_pick (hr.mono (by decide)) paN (pa_cons (pv 0) (pa_cons pe_int pa_nil)))) pa_nil))))) pss_nil)
    (pss_cons (ps_if (pt_cmpR (op_uEq hr.r.units) (pv 1) pe_int (nomark _)) (pss_one (ps_ret (pe_op op_uAdd pe_str (pe_callTy call_uStr (by rfl) T.str b_str (pa_cons (pe_op op_uAdd pe_int (pe_c (E := En) c_l_pick (hr.mono (by decide)) paN (pa_cons (pv 0) (pa_cons pe_int pa_nil)))) pa_nil))))) pss_nil)
    (pss_one (ps_ret (pe_c (E := En) c_l_choice (hr.mono (by decide)) paN (pa_cons (pv 0) (pa_cons (pe_lst (pa_cons pe_str (pa_cons pe_str (pa_cons pe_str (pa_cons pe_str (pa_cons pe_str pa_nil)))))) pa_nil))))))))), ?_⟩
  walk_at "uk"
  walk_at "uy"
  refine ⟨b, 4, rfl, hb, by decide, by decide, fun r H1 r0 r1 k1 => ?_⟩
  walk_at "uy"
  have oc : (("^" : Str)).length = 1 := rfl
  have om : (("^-" : Str)).length = 2 := rfl
  refine s_ite (fun h0 => ?_) (fun h0 => ?_)
  · walk_at "uy"
    exact k _ H1 (Nat.zero_le _) k1
  walk_at "uy"
  refine s_ite (fun h1 => ?_) (fun h1 => ?_)
  · walk_at "uy"
    refine ⟨b, 9, rfl, k1.b1, by decide, by decide, fun q H2 q0 q1 k2 => ?_⟩
    walk_at "uy"
    obtain ⟨t1, t2⟩ := tos_len (p := 1 + q) (by omega) (by omega)
    refine s_strI t1 ?_
    refine s_addS (by rw [oc, t2]; decide) ?_
    exact k _ H2 (by rw [app_len, oc, t2]; decide) (k1.tr k2)
  walk_at "uy"
  refine s_ite (fun h2 => ?_) (fun h2 => ?_)
  · walk_at "uy"
    refine ⟨b, 9, rfl, k1.b1, by decide, by decide, fun q H2 q0 q1 k2 => ?_⟩
    walk_at "uy"
    obtain ⟨t1, t2⟩ := tos_len (p := 1 + q) (by omega) (by omega)
    refine s_strI t1 ?_
    refine s_addS (by rw [om, t2]; decide) ?_
    exact k _ H2 (by rw [app_len, om, t2]; decide) (k1.tr k2)
  walk_at "uy"
  refine s_szN (Nat.le_of_ble_eq_true rfl) fun q nq => ?_
  walk_at "uy"
  have k2 := k1.tr ((exN (o := .lst [.str "^1", .str "^-1", .str "^2", .str "^-2", .str ""]) nq).kb k1.b1)
  refine ⟨b, k2.b1, .inl ⟨q, _, rfl, .of upd_same, Nat.succ_pos _, Nat.le_of_ble_eq_true rfl, fun v H6 hv k6 => ?_⟩⟩
  obtain ⟨z, rfl, hz⟩ : ∃ z : Str, v = .str z ∧ z.length ≤ 3 := by
    simp only [List.mem_cons, List.not_mem_nil, or_false] at hv
    rcases hv with rfl | rfl | rfl | rfl | rfl <;> exact ⟨_, rfl, by decide +kernel⟩
  exact k z H6 hz (k2.tr k6)
end
end Lw

set_option Elab.async false
set_option linter.all false
set_option maxRecDepth 100000
set_option maxHeartbeats 4000000
namespace Lw
open PySem PySem.Spec L2 Uv
open PyProof.Rows hiding St
local macro_rules | `(tactic| walk_at "umul") => `(tactic| fail)
local macro_rules | `(tactic| walk_at "us1") => `(tactic| first
  | (with_reducible refine s_seq ?_) | (with_reducible refine s_asg ?_) | (with_reducible refine s_gn ?_) | (with_reducible refine s_ret ?_) | (with_reducible refine s_drop ?_) | (with_reducible refine s_if ?_) | (with_reducible refine s_next ?_)
  | (with_reducible refine s_brk ?_) | (with_reducible refine s_cont ?_)
  | ((with_reducible refine' s_var ?hv ?_); (case hv => exact rfl)) | (with_reducible refine s_c ?_) | (with_reducible refine s_op ?_) | (with_reducible refine s_un ?_) | (with_reducible refine s_cb ?_) | (with_reducible refine s_call ?_)
  | (with_reducible refine s_cons ?_) | (with_reducible refine s_nil ?_) | (with_reducible refine s_test ?_) | (with_reducible refine s_tB ?_) | (with_reducible refine s_not ?_) | (with_reducible refine s_and ?_) | (with_reducible refine s_or ?_)
  | (with_reducible refine s_andV ?_) | (with_reducible refine s_orV ?_) | (with_reducible refine s_notV ?_) | (with_reducible refine s_ifE ?_) | (with_reducible refine s_bl ?_) | (with_reducible refine s_iT ?_) | (with_reducible refine s_iF ?_)
  | (with_reducible refine s_I0 ?_) | (with_reducible refine s_U ?_) | (with_reducible refine s_addI ?_) | (with_reducible refine s_eqI ?_) | (with_reducible refine s_eqS ?_) | (with_reducible refine s_eqB ?_) | (with_reducible refine s_neI ?_) | (with_reducible refine s_neS ?_) | (with_reducible refine s_neB ?_)
  | (with_reducible refine s_tupE ?_) | (with_reducible refine s_lstE ?_))
local macro_rules | `(tactic| walk_at "us") => `(tactic| repeat walk_at "us1")
local macro_rules | `(tactic| walk_at "ulen") => `(tactic| (intro vs H Q E h; repeat' (first | (obtain ⟨e, _⟩ := h; subst e; rfl) | (subst h; rfl) | (refine Or.elim h (fun h => ?_) (fun h => ?_)) | (obtain ⟨_, h⟩ := h))))
local macro_rules | `(tactic| walk_at "uk") => `(tactic| (try dsimp only [cxOf, Cx.suite, Cx.tr]))
local macro_rules | `(tactic| walk_at "us2") => `(tactic| first
  | walk_at "us1" | (with_reducible refine s_dput ?_) | ((with_reducible refine' s_mod ?hc ?_); (case hc => first | decide | assumption | omega))
  | (with_reducible refine s_for ?_) | (with_reducible refine s_lc ?_) | (with_reducible refine s_bm ?_) | (with_reducible refine s_ilt ?_) | (with_reducible refine s_izx ?_) | (with_reducible refine s_ienum ?_) | (with_reducible refine s_din ?_) | (with_reducible refine s_dnotin ?_) | (with_reducible refine s_itl ?_) | (with_reducible refine s_itt ?_) | (with_reducible refine s_its ?_) | (with_reducible refine s_itr ?_) | (with_reducible refine s_itr2 ?_) | (with_reducible refine s_disp ?_) | (with_reducible refine s_prn ?_) | (with_reducible refine s_prc ?_) | (with_reducible refine s_m1 ?_) | (with_reducible refine s_isS ?_) | (with_reducible refine s_um1 ?_) | (with_reducible refine s_isB ?_) | (with_reducible refine s_isn ?_) | (with_reducible refine s_notn ?_) | (with_reducible refine s_jd ?_) | (with_reducible refine s_jn ?_) | (with_reducible refine s_jc ?_) | (with_reducible refine s_fmt ?_) | (with_reducible refine s_gc ?_) | (with_reducible refine s_gnil ?_) | (with_reducible refine s_yes ?_) | (with_reducible refine s_raise ?_)
  | ((with_reducible refine' s_pow ?hc ?_); (case hc => exact ⟨by decide, by decide, by decide⟩)) | (with_reducible refine s_int ?_) | (with_reducible refine s_intB ?_) | (with_reducible refine s_strS ?_) | (with_reducible refine s_abs ?_) | (with_reducible refine s_max ?_) | (with_reducible refine s_min ?_) | (with_reducible refine s_gcd ?_)
  | (with_reducible refine s_chain ?_) | (with_reducible refine s_sl ?_) | (with_reducible refine s_noP ?_) | (with_reducible refine s_part ?_) | (with_reducible refine s_exI ?_) 
  | ((with_reducible refine' s_mulI ?hc ?_); (case hc => first | exact Or.inl (Or.inr ⟨by decide, by decide⟩) | exact Or.inl (Or.inl ⟨by decide, by decide⟩) | exact Or.inl (Or.inl ⟨by omega, by omega⟩) | exact Or.inl (Or.inr ⟨by omega, by omega⟩) | walk_at "umul"))
  | ((with_reducible refine' s_ixT ?hc ?hd ?_); (case hc => assumption); (case hd => rfl))
  | ((with_reducible refine' s_lenL ?hc ?_); (case hc => first | assumption | exact SqL.of (by assumption))) | ((with_reducible refine' s_lenT ?hc ?_); (case hc => first | assumption | exact SqT.of (by assumption)))
  | ((with_reducible refine' s_divP ?hc ?hd ?_); (case hc => first | decide | assumption | omega); (case hd => first | decide +kernel | assumption)))
local macro_rules | `(tactic| walk_at "us") => `(tactic| repeat walk_at "us2")
local macro_rules | `(tactic| walk_at "uj") => `(tactic| ((walk_at "us"); with_reducible refine s_J ?_))
local macro_rules | `(tactic| walk_at "ua") => `(tactic| ((walk_at "us"); repeat ((first | (refine s_iF ?_) | (refine s_iT ?_)); (walk_at "us"))))
local macro_rules | `(tactic| walk_at "ub") => `(tactic| walk_at "ua")
local macro_rules | `(tactic| walk_at "ux1") => `(tactic| first
  | walk_at "us2" | ((with_reducible refine' s_ixL ?hc ?hd ?_); (case hc => first | assumption | exact SqL.of (by assumption)); (case hd => rfl)) | ((with_reducible refine' s_ixT ?hc ?hd ?_); (case hc => exact SqT.of (by assumption)); (case hd => rfl))
  | ((with_reducible refine' s_intS ?hc ?hd ?_); (case hc => assumption); (case hd => assumption)) | ((with_reducible refine' s_lenS ?hc ?_); (case hc => assumption)))
local macro_rules | `(tactic| walk_at "ux") => `(tactic| repeat walk_at "ux1")
local macro_rules | `(tactic| walk_at "uy") => `(tactic| ((walk_at "ux"); repeat ((first | (refine s_iF ?_) | (refine s_iT ?_)); (walk_at "ux"))))
local macro_rules | `(tactic| walk_at "uz0") => `(tactic| first
  | (with_reducible refine s_seq ?_) | (with_reducible refine s_asg ?_) | (with_reducible refine s_gn ?_) | (with_reducible refine s_ret ?_) | (with_reducible refine s_drop ?_) | (with_reducible refine s_if ?_) | (with_reducible refine s_next ?_)
  | (with_reducible refine s_brk ?_) | (with_reducible refine s_cont ?_)
  | ((with_reducible refine' s_var ?hv ?_); (case hv => exact rfl)) | (with_reducible refine s_c ?_) | (with_reducible refine s_op ?_) | (with_reducible refine s_un ?_) | (with_reducible refine s_cb ?_) | (with_reducible refine s_call ?_)
  | (with_reducible refine s_cons ?_) | (with_reducible refine s_nil ?_) | (with_reducible refine s_test ?_) | (with_reducible refine s_tB ?_) | (with_reducible refine s_not ?_) | (with_reducible refine s_and ?_) | (with_reducible refine s_or ?_)
  | (with_reducible refine s_andV ?_) | (with_reducible refine s_orV ?_) | (with_reducible refine s_notV ?_) | (with_reducible refine s_ifE ?_) | (with_reducible refine s_bl ?_) | (with_reducible refine s_iT ?_) | (with_reducible refine s_iF ?_)
  | (with_reducible refine s_I0 ?_) | (with_reducible refine s_U ?_) | (with_reducible refine s_addI ?_) | (with_reducible refine s_eqI ?_) | (with_reducible refine s_eqS ?_) | (with_reducible refine s_eqB ?_) | (with_reducible refine s_neI ?_) | (with_reducible refine s_neS ?_) | (with_reducible refine s_neB ?_))
local macro_rules | `(tactic| walk_at "uz2") => `(tactic| first
  | walk_at "uz0" | (with_reducible refine s_dput ?_) | ((with_reducible refine' s_mod ?hc ?_); (case hc => first | decide | assumption | omega))
  | (with_reducible refine s_for ?_) | (with_reducible refine s_lc ?_) | (with_reducible refine s_bm ?_) | (with_reducible refine s_ilt ?_) | (with_reducible refine s_izx ?_) | (with_reducible refine s_ienum ?_) | (with_reducible refine s_din ?_) | (with_reducible refine s_dnotin ?_) | (with_reducible refine s_itl ?_) | (with_reducible refine s_itt ?_) | (with_reducible refine s_its ?_) | (with_reducible refine s_itr ?_) | (with_reducible refine s_itr2 ?_) | (with_reducible refine s_disp ?_) | (with_reducible refine s_prn ?_) | (with_reducible refine s_prc ?_) | (with_reducible refine s_m1 ?_) | (with_reducible refine s_isS ?_) | (with_reducible refine s_um1 ?_) | (with_reducible refine s_isB ?_) | (with_reducible refine s_isn ?_) | (with_reducible refine s_notn ?_) | (with_reducible refine s_jd ?_) | (with_reducible refine s_jn ?_) | (with_reducible refine s_jc ?_) | (with_reducible refine s_fmt ?_) | (with_reducible refine s_gc ?_) | (with_reducible refine s_gnil ?_) | (with_reducible refine s_yes ?_) | (with_reducible refine s_raise ?_)
  | ((with_reducible refine' s_pow ?hc ?_); (case hc => exact ⟨by decide, by decide, by decide⟩)) | (with_reducible refine s_int ?_) | (with_reducible refine s_intB ?_) | (with_reducible refine s_strS ?_) | (with_reducible refine s_abs ?_) | (with_reducible refine s_max ?_) | (with_reducible refine s_min ?_) | (with_reducible refine s_gcd ?_)
  | (with_reducible refine s_chain ?_) | (with_reducible refine s_sl ?_) | (with_reducible refine s_noP ?_) | (with_reducible refine s_part ?_) | (with_reducible refine s_exI ?_) 
  | ((with_reducible refine' s_mulI ?hc ?_); (case hc => first | exact Or.inl (Or.inr ⟨by decide, by decide⟩) | exact Or.inl (Or.inl ⟨by decide, by decide⟩) | exact Or.inl (Or.inl ⟨by omega, by omega⟩) | exact Or.inl (Or.inr ⟨by omega, by omega⟩) | walk_at "umul"))
  | ((with_reducible refine' s_ixT ?hc ?hd ?_); (case hc => assumption); (case hd => rfl))
  | ((with_reducible refine' s_lenL ?hc ?_); (case hc => first | assumption | exact SqL.of (by assumption))) | ((with_reducible refine' s_lenT ?hc ?_); (case hc => first | assumption | exact SqT.of (by assumption)))
  | ((with_reducible refine' s_divP ?hc ?hd ?_); (case hc => first | decide | assumption | omega); (case hd => first | decide +kernel | assumption)))
local macro_rules | `(tactic| walk_at "uz1") => `(tactic| first
  | walk_at "uz2" | ((with_reducible refine' s_ixL ?hc ?hd ?_); (case hc => first | assumption | exact SqL.of (by assumption)); (case hd => rfl)) | ((with_reducible refine' s_ixT ?hc ?hd ?_); (case hc => exact SqT.of (by assumption)); (case hd => rfl))
  | ((with_reducible refine' s_intS ?hc ?hd ?_); (case hc => assumption); (case hd => assumption)) | ((with_reducible refine' s_lenS ?hc ?_); (case hc => assumption)))
local macro_rules | `(tactic| walk_at "uz") => `(tactic| ((repeat walk_at "uz1"); repeat ((first | (refine s_iF ?_) | (refine s_iT ?_)); (repeat walk_at "uz1"))))
section
variable {P : Program} {w : World} {K : PySem.W.Frag} {mg : Str → Option Value} {base : Heap}
variable {cE cH cU cW : Addr}
theorem ok_l_product (T : Tp P K mg cE cH cU cW)
    (c_l_choice : Cal P w K mg base 2 "_law_choice" P_l_choice [] (spChoice K))
    (c_l_exponent : Cal P w K mg base 3 "_law_exponent" P_l_exponent [] (spExponent))
    (c_l_one_in : Cal P w K mg base 2 "_law_one_in" P_l_one_in [] (spOne))
    (c_l_pick : Cal P w K mg base 1 "_law_pick" P_l_pick [] (spPick))
    {f : Addr} {fd : FuncData} {dvs : List V} (F : FunD K "_law_product" "_law_product" (defArgs s_l_product) (defBody s_l_product) (defScope s_l_product) dvs [] f fd) : FnG P w K mg base 4 f fd P_l_product (spProduct K) := by
  refine fng F sc_l_product (by walk_at "ulen") (fun cdv A outer s H vs Q E hr0 hg0 h => ?_)
  have hr : Rm 3 (A.deeper (envOfC "_law_product" (defScope s_l_product) s.heap.objs.size f cdv)) := ⟨hr0, hg0⟩
  have nd : N_l_product.Nodup := sc_l_product.nd
  have po : PassesOwn (model P w) (cxOf (L2.CX P w) P w K mg base N_l_product "_law_product" (defScope s_l_product) f cdv A outer s H E).A (cxOf (L2.CX P w) P w K mg base N_l_product "_law_product" (defScope s_l_product) f cdv A outer s H E).env (cxOf (L2.CX P w) P w K mg base N_l_product "_law_product" (defScope s_l_product) f cdv A outer s H E).xe := passes_of rfl
  obtain ⟨b, p, zs, rfl, hb, hp, h1, h100, h12, k⟩ := h
  refine ⟨_, (pss_cons (ps_set (i := 2) nd rfl (Or.inl rfl) (pe_op op_uAdd pe_int (pe_c (E := En) c_l_pick (hr.mono (by decide)) paN (pa_cons (pv 0) (pa_cons pe_int pa_nil)))))
    (pss_consJ (ps_if (pt_val (pe_c (E := En) c_l_one_in (hr.mono (by decide)) paN (pa_cons (pv 0) (pa_cons pe_int pa_nil)))) (pss_one (ps_set (i := 2) nd rfl (Or.inl rfl) (pe_op op_uAdd (pv 2) (pe_c (E := En) c_l_pick (hr.mono (by decide)) paN (pa_cons (pv 0) (pa_cons pe_int pa_nil)))))) pss_nil)
    (pss_cons (ps_set (i := 3) nd rfl (Or.inl rfl) pe_str)
    (pss_cons (ps_for po rfl (pi_range1 (by rfl) T.range (pa_cons (pv 2) pa_nil)) (pg_name (i := 4) nd rfl (Or.inl rfl))
    (pss_consJ (ps_if (pt_cmpR op_gt (pv 4) pe_int (nomark _)) (pss_one (ps_set (i := 3) nd rfl (Or.inl rfl) (pe_op op_uAdd (pv 3) (pe_c (E := En) c_l_choice (hr.mono (by decide)) paN (pa_cons (pv 0) (pa_cons pe_str pa_nil)))))) pss_nil)
    (pss_one (ps_if (PW.pt (pw_and (pt_cmpR (op_uEq hr.r.units) (pv 4) pe_int (nomark _)) (pw_and1 (pt_val (pe_c (E := En) c_l_one_in (hr.mono (by decide)) paN (pa_cons (pv 0) (pa_cons pe_int pa_nil))))))) (pss_one (ps_set (i := 3) nd rfl (Or.inl rfl) (pe_op op_uAdd (pv 3) pe_str))) (pss_one (ps_set (i := 3) nd rfl (Or.inl rfl) (pe_op op_uAdd (pe_op op_uAdd (pv 3) (pe_c (E := En) c_l_choice (hr.mono (by decide)) paN (pa_cons (pv 0) (pa_cons (pv 1) pa_nil)))) (pe_c (E := En) c_l_exponent (hr.mono (by decide)) paN (pa_cons (pv 0) pa_nil)))))))))
    (pss_one (ps_ret (pv 3))))))), ?_⟩
  walk_at "uk"
  walk_at "uy"
  refine ⟨b, 6, rfl, hb, by decide, by decide, fun r H1 r0 r1 k1 => ?_⟩
  walk_at "uj"
  refine s_seqJ (fun σ' H' => Kb b H H' ∧ ∃ m : Int, 0 ≤ m ∧ m ≤ 25 ∧ σ' = (L2.start N_l_product [.ref b, .ref p]).set 2 (some (.int m))) ?_ (fun R hR => ?_)
  · rintro σ' H2 ⟨k2, m, m0, m25, rfl⟩
    walk_at "uy"
    refine ⟨m, rfl, by omega, by omega, ?_⟩
    refine loopR (fun i σ' H' => Kb b H H' ∧ ∃ (z : Str) (o : Option V), z.length ≤ 20 * i ∧ σ' = (((L2.start N_l_product [.ref b, .ref p]).set 2 (some (.int m))).set 3 (some (.str z))).set 4 o) ⟨k2, "", none, Nat.le_refl _, rfl⟩ ?_ ?_
    · rintro σ' H3 ⟨k3, z, o, hz, rfl⟩
      walk_at "uy"
      exact k z H3 (by omega) k3
    · rintro i σ' H3 hi ⟨k3, z, o, hz, rfl⟩
      walk_at "uj"
      refine s_seqJ (fun σ' H' => Kb b H H' ∧ ∃ z : Str, z.length ≤ 20 * i + 1 ∧ σ' = (((L2.start N_l_product [.ref b, .ref p]).set 2 (some (.int m))).set 3 (some (.str z))).set 4 (some (.int (0 + i)))) ?_ (fun R hR => ?_)
      · clear hz
        rintro σ' H4 ⟨k4, z, hz, rfl⟩
        walk_at "uy"
        have o1 : (("1" : Str)).length = 1 := rfl
        refine s_ite (fun h0 => ?_) (fun h0 => ?_)
        · walk_at "uy"
          refine ⟨b, 4, rfl, k4.b1, by decide, by decide, fun x H5 k5 => ?_⟩
          have k45 := k4.tr k5
          refine s_if1 (x := x) (fun hx => ?_) (fun hx => ?_)
          · rw [hx]
            walk_at "uy"
            refine s_addS (by rw [o1]; show _ ≤ 16777216; omega) ?_
            walk_at "uy"
            exact ⟨k45, _, _, by rw [app_len, o1]; omega, rfl⟩
          · rw [hx]
            walk_at "uy"
            refine ⟨b, k45.b1, .inl ⟨p, _, rfl, k45.l hp, by rw [List.length_map]; exact h1, by rw [List.length_map]; omega, fun v H6 hv k6 => ?_⟩⟩
            obtain ⟨nm, hnm, rfl⟩ := List.mem_map.mp hv
            have l12 := h12 nm hnm
            refine s_addS (by show _ ≤ 16777216; omega) ?_
            walk_at "uy"
            refine ⟨b, rfl, k6.b1, fun y H7 hy k7 => ?_⟩
            refine s_addS (by rw [app_len]; show _ ≤ 16777216; omega) ?_
            walk_at "uy"
            exact ⟨(k45.tr k6).tr k7, _, _, by rw [app_len, app_len]; omega, rfl⟩
        · walk_at "uy"
          walk_at "uy"
          refine ⟨b, k4.b1, .inl ⟨p, _, rfl, k4.l hp, by rw [List.length_map]; exact h1, by rw [List.length_map]; omega, fun v H6 hv k6 => ?_⟩⟩
          obtain ⟨nm, hnm, rfl⟩ := List.mem_map.mp hv
          have l12 := h12 nm hnm
          refine s_addS (by show _ ≤ 16777216; omega) ?_
          walk_at "uy"
          refine ⟨b, rfl, k6.b1, fun y H7 hy k7 => ?_⟩
          refine s_addS (by rw [app_len]; show _ ≤ 16777216; omega) ?_
          walk_at "uy"
          exact ⟨(k4.tr k6).tr k7, _, _, by rw [app_len, app_len]; omega, rfl⟩
      · walk_at "uy"
        refine s_ite (fun h0 => ?_) (fun h0 => ?_)
        · walk_at "uy"
          refine ⟨b, k3.b1, .inr ⟨"*/", rfl, by decide +kernel, by decide +kernel, fun c H4 hc k4 => ?_⟩⟩
          refine s_addS (by show _ + 1 ≤ 16777216; omega) ?_
          walk_at "uy"
          exact hR _ _ ⟨k3.tr k4, _, by rw [app_len]; show _ + 1 ≤ _; omega, rfl⟩
        · walk_at "uy"
          exact hR _ _ ⟨k3, z, by omega, rfl⟩
  · walk_at "uy"
    refine ⟨b, 5, rfl, k1.b1, by decide, by decide, fun x H2 k2 => ?_⟩
    refine s_if1 (x := x) (fun hx => ?_) (fun hx => ?_)
    · rw [hx]
      walk_at "uy"
      refine ⟨b, 19, rfl, k2.b1, by decide, by decide, fun q H3 q0 q1 k3 => ?_⟩
      walk_at "uy"
      exact hR _ _ ⟨(k1.tr k2).tr k3, _, by omega, by omega, rfl⟩
    · rw [hx]
      walk_at "uy"
      exact hR _ _ ⟨k1.tr k2, _, by omega, by omega, rfl⟩
end
end Lw

set_option Elab.async false
set_option linter.all false
set_option maxRecDepth 100000
set_option maxHeartbeats 4000000
namespace Lw
open PySem PySem.Spec L2 Uv
open PyProof.Rows hiding St
local macro_rules | `(tactic| walk_at "umul") => `(tactic| fail)
local macro_rules | `(tactic| walk_at "us1") => `(tactic| first
  | (with_reducible refine s_seq ?_) | (with_reducible refine s_asg ?_) | (with_reducible refine s_gn ?_) | (with_reducible refine s_ret ?_) | (with_reducible refine s_drop ?_) | (with_reducible refine s_if ?_) | (with_reducible refine s_next ?_)
  | (with_reducible refine s_brk ?_) | (with_reducible refine s_cont ?_)
  | ((with_reducible refine' s_var ?hv ?_); (case hv => exact rfl)) | (with_reducible refine s_c ?_) | (with_reducible refine s_op ?_) | (with_reducible refine s_un ?_) | (with_reducible refine s_cb ?_) | (with_reducible refine s_call ?_)
  | (with_reducible refine s_cons ?_) | (with_reducible refine s_nil ?_) | (with_reducible refine s_test ?_) | (with_reducible refine s_tB ?_) | (with_reducible refine s_not ?_) | (with_reducible refine s_and ?_) | (with_reducible refine s_or ?_)
  | (with_reducible refine s_andV ?_) | (with_reducible refine s_orV ?_) | (with_reducible refine s_notV ?_) | (with_reducible refine s_ifE ?_) | (with_reducible refine s_bl ?_) | (with_reducible refine s_iT ?_) | (with_reducible refine s_iF ?_)
  | (with_reducible refine s_I0 ?_) | (with_reducible refine s_U ?_) | (with_reducible refine s_addI ?_) | (with_reducible refine s_eqI ?_) | (with_reducible refine s_eqS ?_) | (with_reducible refine s_eqB ?_) | (with_reducible refine s_neI ?_) | (with_reducible refine s_neS ?_) | (with_reducible refine s_neB ?_)
  | (with_reducible refine s_tupE ?_) | (with_reducible refine s_lstE ?_))
local macro_rules | `(tactic| walk_at "us") => `(tactic| repeat walk_at "us1")
local macro_rules | `(tactic| walk_at "ulen") => `(tactic| (intro vs H Q E h; repeat' (first | (obtain ⟨e, _⟩ := h; subst e; rfl) | (subst h; rfl) | (refine Or.elim h (fun h => ?_) (fun h => ?_)) | (obtain ⟨_, h⟩ := h))))
local macro_rules | `(tactic| walk_at "uk") => `(tactic| (try dsimp only [cxOf, Cx.suite, Cx.tr]))
local macro_rules | `(tactic| walk_at "us2") => `(tactic| first
  | walk_at "us1" | (with_reducible refine s_dput ?_) | ((with_reducible refine' s_mod ?hc ?_); (case hc => first | decide | assumption | omega))
  | (with_reducible refine s_for ?_) | (with_reducible refine s_lc ?_) | (with_reducible refine s_bm ?_) | (with_reducible refine s_ilt ?_) | (with_reducible refine s_izx ?_) | (with_reducible refine s_ienum ?_) | (with_reducible refine s_din ?_) | (with_reducible refine s_dnotin ?_) | (with_reducible refine s_itl ?_) | (with_reducible refine s_itt ?_) | (with_reducible refine s_its ?_) | (with_reducible refine s_itr ?_) | (with_reducible refine s_itr2 ?_) | (with_reducible refine s_disp ?_) | (with_reducible refine s_prn ?_) | (with_reducible refine s_prc ?_) | (with_reducible refine s_m1 ?_) | (with_reducible refine s_isS ?_) | (with_reducible refine s_um1 ?_) | (with_reducible refine s_isB ?_) | (with_reducible refine s_isn ?_) | (with_reducible refine s_notn ?_) | (with_reducible refine s_jd ?_) | (with_reducible refine s_jn ?_) | (with_reducible refine s_jc ?_) | (with_reducible refine s_fmt ?_) | (with_reducible refine s_gc ?_) | (with_reducible refine s_gnil ?_) | (with_reducible refine s_yes ?_) | (with_reducible refine s_raise ?_)
  | ((with_reducible refine' s_pow ?hc ?_); (case hc => exact ⟨by decide, by decide, by decide⟩)) | (with_reducible refine s_int ?_) | (with_reducible refine s_intB ?_) | (with_reducible refine s_strS ?_) | (with_reducible refine s_abs ?_) | (with_reducible refine s_max ?_) | (with_reducible refine s_min ?_) | (with_reducible refine s_gcd ?_)
  | (with_reducible refine s_chain ?_) | (with_reducible refine s_sl ?_) | (with_reducible refine s_noP ?_) | (with_reducible refine s_part ?_) | (with_reducible refine s_exI ?_) 
  | ((with_reducible refine' s_mulI ?hc ?_); (case hc => first | exact Or.inl (Or.inr ⟨by decide, by decide⟩) | exact Or.inl (Or.inl ⟨by decide, by decide⟩) | exact Or.inl (Or.inl ⟨by omega, by omega⟩) | exact Or.inl (Or.inr ⟨by omega, by omega⟩) | walk_at "umul"))
  | ((with_reducible refine' s_ixT ?hc ?hd ?_); (case hc => assumption); (case hd => rfl))
  | ((with_reducible refine' s_lenL ?hc ?_); (case hc => first | assumption | exact SqL.of (by assumption))) | ((with_reducible refine' s_lenT ?hc ?_); (case hc => first | assumption | exact SqT.of (by assumption)))
  | ((with_reducible refine' s_divP ?hc ?hd ?_); (case hc => first | decide | assumption | omega); (case hd => first | decide +kernel | assumption)))
local macro_rules | `(tactic| walk_at "us") => `(tactic| repeat walk_at "us2")
local macro_rules | `(tactic| walk_at "uj") => `(tactic| ((walk_at "us"); with_reducible refine s_J ?_))
local macro_rules | `(tactic| walk_at "ua") => `(tactic| ((walk_at "us"); repeat ((first | (refine s_iF ?_) | (refine s_iT ?_)); (walk_at "us"))))
local macro_rules | `(tactic| walk_at "ub") => `(tactic| walk_at "ua")
local macro_rules | `(tactic| walk_at "ux1") => `(tactic| first
  | walk_at "us2" | ((with_reducible refine' s_ixL ?hc ?hd ?_); (case hc => first | assumption | exact SqL.of (by assumption)); (case hd => rfl)) | ((with_reducible refine' s_ixT ?hc ?hd ?_); (case hc => exact SqT.of (by assumption)); (case hd => rfl))
  | ((with_reducible refine' s_intS ?hc ?hd ?_); (case hc => assumption); (case hd => assumption)) | ((with_reducible refine' s_lenS ?hc ?_); (case hc => assumption)))
local macro_rules | `(tactic| walk_at "ux") => `(tactic| repeat walk_at "ux1")
local macro_rules | `(tactic| walk_at "uy") => `(tactic| ((walk_at "ux"); repeat ((first | (refine s_iF ?_) | (refine s_iT ?_)); (walk_at "ux"))))
local macro_rules | `(tactic| walk_at "uz0") => `(tactic| first
  | (with_reducible refine s_seq ?_) | (with_reducible refine s_asg ?_) | (with_reducible refine s_gn ?_) | (with_reducible refine s_ret ?_) | (with_reducible refine s_drop ?_) | (with_reducible refine s_if ?_) | (with_reducible refine s_next ?_)
  | (with_reducible refine s_brk ?_) | (with_reducible refine s_cont ?_)
  | ((with_reducible refine' s_var ?hv ?_); (case hv => exact rfl)) | (with_reducible refine s_c ?_) | (with_reducible refine s_op ?_) | (with_reducible refine s_un ?_) | (with_reducible refine s_cb ?_) | (with_reducible refine s_call ?_)
  | (with_reducible refine s_cons ?_) | (with_reducible refine s_nil ?_) | (with_reducible refine s_test ?_) | (with_reducible refine s_tB ?_) | (with_reducible refine s_not ?_) | (with_reducible refine s_and ?_) | (with_reducible refine s_or ?_)
  | (with_reducible refine s_andV ?_) | (with_reducible refine s_orV ?_) | (with_reducible refine s_notV ?_) | (with_reducible refine s_ifE ?_) | (with_reducible refine s_bl ?_) | (with_reducible refine s_iT ?_) | (with_reducible refine s_iF ?_)
  | (with_reducible refine s_I0 ?_) | (with_reducible refine s_U ?_) | (with_reducible refine s_addI ?_) | (with_reducible refine s_eqI ?_) | (with_reducible refine s_eqS ?_) | (with_reducible refine s_eqB ?_) | (with_reducible refine s_neI ?_) | (with_reducible refine s_neS ?_) | (with_reducible refine s_neB ?_))
local macro_rules | `(tactic| walk_at "uz2") => `(tactic| first
  | walk_at "uz0" | (with_reducible refine s_dput ?_) | ((with_reducible refine' s_mod ?hc ?_); (case hc => first | decide | assumption | omega))
  | (with_reducible refine s_for ?_) | (with_reducible refine s_lc ?_) | (with_reducible refine s_bm ?_) | (with_reducible refine s_ilt ?_) | (with_reducible refine s_izx ?_) | (with_reducible refine s_ienum ?_) | (with_reducible refine s_din ?_) | (with_reducible refine s_dnotin ?_) | (with_reducible refine s_itl ?_) | (with_reducible refine s_itt ?_) | (with_reducible refine s_its ?_) | (with_reducible refine s_itr ?_) | (with_reducible refine s_itr2 ?_) | (with_reducible refine s_disp ?_) | (with_reducible refine s_prn ?_) | (with_reducible refine s_prc ?_) | (with_reducible refine s_m1 ?_) | (with_reducible refine s_isS ?_) | (with_reducible refine s_um1 ?_) | (with_reducible refine s_isB ?_) | (with_reducible refine s_isn ?_) | (with_reducible refine s_notn ?_) | (with_reducible refine s_jd ?_) | (with_reducible refine s_jn ?_) | (with_reducible refine s_jc ?_) | (with_reducible refine s_fmt ?_) | (with_reducible refine s_gc ?_) | (with_reducible refine s_gnil ?_) | (with_reducible refine s_yes ?_) | (with_reducible refine s_raise ?_)
  | ((with_reducible refine' s_pow ?hc ?_); (case hc => exact ⟨by decide, by decide, by decide⟩)) | (with_reducible refine s_int ?_) | (with_reducible refine s_intB ?_) | (with_reducible refine s_strS ?_) | (with_reducible refine s_abs ?_) | (with_reducible refine s_max ?_) | (with_reducible refine s_min ?_) | (with_reducible refine s_gcd ?_)
  | (with_reducible refine s_chain ?_) | (with_reducible refine s_sl ?_) | (with_reducible refine s_noP ?_) | (with_reducible refine s_part ?_) | (with_reducible refine s_exI ?_) 
  | ((with_reducible refine' s_mulI ?hc ?_); (case hc => first | exact Or.inl (Or.inr ⟨by decide, by decide⟩) | exact Or.inl (Or.inl ⟨by decide, by decide⟩) | exact Or.inl (Or.inl ⟨by omega, by omega⟩) | exact Or.inl (Or.inr ⟨by omega, by omega⟩) | walk_at "umul"))
  | ((with_reducible refine' s_ixT ?hc ?hd ?_); (case hc => assumption); (case hd => rfl))
  | ((with_reducible refine' s_lenL ?hc ?_); (case hc => first | assumption | exact SqL.of (by assumption))) | ((with_reducible refine' s_lenT ?hc ?_); (case hc => first | assumption | exact SqT.of (by assumption)))
  | ((with_reducible refine' s_divP ?hc ?hd ?_); (case hc => first | decide | assumption | omega); (case hd => first | decide +kernel | assumption)))
local macro_rules | `(tactic| walk_at "uz1") => `(tactic| first
  | walk_at "uz2" | ((with_reducible refine' s_ixL ?hc ?hd ?_); (case hc => first | assumption | exact SqL.of (by assumption)); (case hd => rfl)) | ((with_reducible refine' s_ixT ?hc ?hd ?_); (case hc => exact SqT.of (by assumption)); (case hd => rfl))
  | ((with_reducible refine' s_intS ?hc ?hd ?_); (case hc => assumption); (case hd => assumption)) | ((with_reducible refine' s_lenS ?hc ?_); (case hc => assumption)))
local macro_rules | `(tactic| walk_at "uz") => `(tactic| ((repeat walk_at "uz1"); repeat ((first | (refine s_iF ?_) | (refine s_iT ?_)); (repeat walk_at "uz1"))))
theorem tos_one {i : Nat} (h : i < 9) : (toString (1 + (i : Int)) : Str).cps.toList = [49 + i] ∧ (1 + (i : Int)).natAbs.log2 < 1920 := by
  match i, h with
  | 0, _ => exact ⟨by decide +kernel, by decide⟩
  | 1, _ => exact ⟨by decide +kernel, by decide⟩
  | 2, _ => exact ⟨by decide +kernel, by decide⟩
  | 3, _ => exact ⟨by decide +kernel, by decide⟩
  | 4, _ => exact ⟨by decide +kernel, by decide⟩
  | 5, _ => exact ⟨by decide +kernel, by decide⟩
  | 6, _ => exact ⟨by decide +kernel, by decide⟩
  | 7, _ => exact ⟨by decide +kernel, by decide⟩
  | 8, _ => exact ⟨by decide +kernel, by decide⟩
theorem fig_pos (l : List Nat) (i : Nat) (h : i < 9) : figL l = 1 + (i : Int) ↔ l = [49 + i] := by
  match l with
  | [] => simp [figL]; omega
  | [c] =>
    simp only [figL, List.cons.injEq, and_true]
    split <;> omega
  | [m, c] =>
    simp only [figL]
    constructor
    · intro q; split at q <;> omega
    · intro q; simp at q
  | _ :: _ :: _ :: _ =>
    simp only [figL]
    constructor
    · intro q; omega
    · intro q; simp at q
theorem fig_neg (l : List Nat) (i : Nat) (h : i < 9) : figL l = 0 - (1 + (i : Int)) ↔ l = [45, 49 + i] := by
  match l with
  | [] => simp [figL]; omega
  | [c] =>
    simp only [figL]
    constructor
    · intro q; split at q <;> omega
    · intro q; simp at q
  | [m, c] =>
    simp only [figL, List.cons.injEq, and_true]
    split <;> omega
  | _ :: _ :: _ :: _ =>
    simp only [figL]
    constructor
    · intro q; omega
    · intro q; simp at q
theorem fig_one {i : Nat} {z : Str} (h : i < 9) : (1 + (i : Int)).natAbs.log2 < 1920 ∧ (toString (1 + (i : Int)) : Str).length = 1 ∧ (z = toString (1 + (i : Int)) ↔ figL z.cps.toList = 1 + (i : Int)) ∧ (z = "-" ++ toString (1 + (i : Int)) ↔ figL z.cps.toList = 0 - (1 + (i : Int))) := by
  obtain ⟨a, b⟩ := tos_one h
  refine ⟨b, ?_, ?_, ?_⟩
  · rw [TL.len_tl]; show ((toString (1 + (i : Int)) : Str).cps.toList).length = 1; rw [a]; rfl
  · rw [fig_pos _ _ h, ← a]
    exact ⟨fun e => by rw [e], fun e => TL.ext_tl e⟩
  · rw [fig_neg _ _ h]
    have e2 : (("-" : Str) ++ (toString (1 + (i : Int)) : Str)).cps.toList = [45, 49 + i] := by
      show TL.tl (("-" : Str) ++ (toString (1 + (i : Int)) : Str)) = _
      rw [TL.tl_append]
      show TL.tl ("-" : Str) ++ (toString (1 + (i : Int)) : Str).cps.toList = _
      rw [a]; rfl
    exact ⟨fun e => by rw [e]; exact e2, fun e => TL.ext_tl (e.trans e2.symm)⟩
section
variable {P : Program} {w : World} {K : PySem.W.Frag} {mg : Str → Option Value} {base : Heap}
variable {cE cH cU cW : Addr}
theorem ok_l_figure_of (T : Tp P K mg cE cH cU cW)
    {f : Addr} {fd : FuncData} {dvs : List V} (F : FunD K "_law_figure_of" "_law_figure_of" (defArgs s_l_figure_of) (defBody s_l_figure_of) (defScope s_l_figure_of) dvs [] f fd) : FnG P w K mg base 1 f fd P_l_figure_of (spFigure) := by
  refine fng F sc_l_figure_of (by walk_at "ulen") (fun cdv A outer s H vs Q E hr0 hg0 h => ?_)
  have hr : Rm 0 (A.deeper (envOfC "_law_figure_of" (defScope s_l_figure_of) s.heap.objs.size f cdv)) := ⟨hr0, hg0⟩
  have nd : N_l_figure_of.Nodup := sc_l_figure_of.nd
  have po : PassesOwn (model P w) (cxOf (L2.CX P w) P w K mg base N_l_figure_of "_law_figure_of" (defScope s_l_figure_of) f cdv A outer s H E).A (cxOf (L2.CX P w) P w K mg base N_l_figure_of "_law_figure_of" (defScope s_l_figure_of) f cdv A outer s H E).env (cxOf (L2.CX P w) P w K mg base N_l_figure_of "_law_figure_of" (defScope s_l_figure_of) f cdv A outer s H E).xe := passes_of rfl
  obtain ⟨z, rfl, hz, k⟩ := h
  refine ⟨_, (pss_cons (ps_for po rfl (pi_range2 (by rfl) T.range (pa_cons pe_int (pa_cons pe_int pa_nil))) (pg_name (i := 1) nd rfl (Or.inl rfl))
    (pss_cons (ps_if (pt_cmpR (op_uEq hr.r.units) (pv 0) (pe_callTy call_uStr (by rfl) T.str b_str (pa_cons (pv 1) pa_nil)) (nomark _)) (pss_one (ps_ret (pv 1))) pss_nil)
    (pss_one (ps_if (pt_cmpR (op_uEq hr.r.units) (pv 0) (pe_op op_uAdd pe_str (pe_callTy call_uStr (by rfl) T.str b_str (pa_cons (pv 1) pa_nil))) (nomark _)) (pss_one (ps_ret (pe_op op_sub pe_int (pv 1)))) pss_nil))))
    (pss_one (ps_ret pe_int))), ?_⟩
  walk_at "uk"
  walk_at "uy"
  refine ⟨1, 10, rfl, by decide, ?_⟩
  refine loopR (n := (10 - 1 : Int).toNat) (fun i σ' H' => H = H' ∧ (∀ j : Nat, j < i → figL z.cps.toList ≠ (j : Int) + 1 ∧ figL z.cps.toList ≠ -((j : Int) + 1)) ∧ ∃ o, σ' = (L2.start N_l_figure_of [.str z]).set 1 o) ⟨rfl, fun j h => absurd h (Nat.not_lt_zero _), none, rfl⟩ ?_ ?_
  · rintro σ' H' ⟨rfl, hj, o, rfl⟩
    walk_at "uy"
    have r := fig_rng z.cps.toList
    have e0 : figL z.cps.toList = 0 := by
      by_cases e0 : figL z.cps.toList = 0
      · exact e0
      · have := hj ((figL z.cps.toList).natAbs - 1) (by show _ < 9; omega)
        omega
    rw [e0] at k
    exact k
  · rintro i σ' H' hi ⟨rfl, hj, o, rfl⟩
    walk_at "uy"
    obtain ⟨t1, t2, t3, t4⟩ := fig_one (i := i) (z := z) (by omega)
    refine ⟨t1, ?_⟩
    walk_at "uy"
    refine s_ite (fun h1 => ?_) (fun h1 => ?_)
    · walk_at "uy"
      rw [← t3.mp h1]
      exact k
    walk_at "uy"
    refine ⟨t1, ?_⟩
    refine s_addS (by rw [t2]; decide) ?_
    walk_at "uy"
    refine s_ite (fun h2 => ?_) (fun h2 => ?_)
    · walk_at "uy"
      rw [← t4.mp h2]
      exact k
    walk_at "uy"
    refine ⟨rfl, fun j hji => ?_, _, rfl⟩
    by_cases e : j = i
    · subst e
      exact ⟨fun q => h1 (t3.mpr (by omega)), fun q => h2 (t4.mpr (by omega))⟩
    · exact hj j (by omega)
end
end Lw

set_option Elab.async false
set_option linter.all false
set_option maxRecDepth 100000
set_option maxHeartbeats 4000000
namespace Lw
open PySem PySem.Spec L2 Uv
open PyProof.Rows hiding St
local macro_rules | `(tactic| walk_at "umul") => `(tactic| fail)
local macro_rules | `(tactic| walk_at "us1") => `(tactic| first
  | (with_reducible refine s_seq ?_) | (with_reducible refine s_asg ?_) | (with_reducible refine s_gn ?_) | (with_reducible refine s_ret ?_) | (with_reducible refine s_drop ?_) | (with_reducible refine s_if ?_) | (with_reducible refine s_next ?_)
  | (with_reducible refine s_brk ?_) | (with_reducible refine s_cont ?_)
  | ((with_reducible refine' s_var ?hv ?_); (case hv => exact rfl)) | (with_reducible refine s_c ?_) | (with_reducible refine s_op ?_) | (with_reducible refine s_un ?_) | (with_reducible refine s_cb ?_) | (with_reducible refine s_call ?_)
  | (with_reducible refine s_cons ?_) | (with_reducible refine s_nil ?_) | (with_reducible refine s_test ?_) | (with_reducible refine s_tB ?_) | (with_reducible refine s_not ?_) | (with_reducible refine s_and ?_) | (with_reducible refine s_or ?_)
  | (with_reducible refine s_andV ?_) | (with_reducible refine s_orV ?_) | (with_reducible refine s_notV ?_) | (with_reducible refine s_ifE ?_) | (with_reducible refine s_bl ?_) | (with_reducible refine s_iT ?_) | (with_reducible refine s_iF ?_)
  | (with_reducible refine s_I0 ?_) | (with_reducible refine s_U ?_) | (with_reducible refine s_addI ?_) | (with_reducible refine s_eqI ?_) | (with_reducible refine s_eqS ?_) | (with_reducible refine s_eqB ?_) | (with_reducible refine s_neI ?_) | (with_reducible refine s_neS ?_) | (with_reducible refine s_neB ?_)
  | (with_reducible refine s_tupE ?_) | (with_reducible refine s_lstE ?_))
local macro_rules | `(tactic| walk_at "us") => `(tactic| repeat walk_at "us1")
local macro_rules | `(tactic| walk_at "ulen") => `(tactic| (intro vs H Q E h; repeat' (first | (obtain ⟨e, _⟩ := h; subst e; rfl) | (subst h; rfl) | (refine Or.elim h (fun h => ?_) (fun h => ?_)) | (obtain ⟨_, h⟩ := h))))
local macro_rules | `(tactic| walk_at "uk") => `(tactic| (try dsimp only [cxOf, Cx.suite, Cx.tr]))
local macro_rules | `(tactic| walk_at "us2") => `(tactic| first
  | walk_at "us1" | (with_reducible refine s_dput ?_) | ((with_reducible refine' s_mod ?hc ?_); (case hc => first | decide | assumption | omega))
  | (with_reducible refine s_for ?_) | (with_reducible refine s_lc ?_) | (with_reducible refine s_bm ?_) | (with_reducible refine s_ilt ?_) | (with_reducible refine s_izx ?_) | (with_reducible refine s_ienum ?_) | (with_reducible refine s_din ?_) | (with_reducible refine s_dnotin ?_) | (with_reducible refine s_itl ?_) | (with_reducible refine s_itt ?_) | (with_reducible refine s_its ?_) | (with_reducible refine s_itr ?_) | (with_reducible refine s_itr2 ?_) | (with_reducible refine s_disp ?_) | (with_reducible refine s_prn ?_) | (with_reducible refine s_prc ?_) | (with_reducible refine s_m1 ?_) | (with_reducible refine s_isS ?_) | (with_reducible refine s_um1 ?_) | (with_reducible refine s_isB ?_) | (with_reducible refine s_isn ?_) | (with_reducible refine s_notn ?_) | (with_reducible refine s_jd ?_) | (with_reducible refine s_jn ?_) | (with_reducible refine s_jc ?_) | (with_reducible refine s_fmt ?_) | (with_reducible refine s_gc ?_) | (with_reducible refine s_gnil ?_) | (with_reducible refine s_yes ?_) | (with_reducible refine s_raise ?_)
  | ((with_reducible refine' s_pow ?hc ?_); (case hc => exact ⟨by decide, by decide, by decide⟩)) | (with_reducible refine s_int ?_) | (with_reducible refine s_intB ?_) | (with_reducible refine s_strS ?_) | (with_reducible refine s_abs ?_) | (with_reducible refine s_max ?_) | (with_reducible refine s_min ?_) | (with_reducible refine s_gcd ?_)
  | (with_reducible refine s_chain ?_) | (with_reducible refine s_sl ?_) | (with_reducible refine s_noP ?_) | (with_reducible refine s_part ?_) | (with_reducible refine s_exI ?_) 
  | ((with_reducible refine' s_mulI ?hc ?_); (case hc => first | exact Or.inl (Or.inr ⟨by decide, by decide⟩) | exact Or.inl (Or.inl ⟨by decide, by decide⟩) | exact Or.inl (Or.inl ⟨by omega, by omega⟩) | exact Or.inl (Or.inr ⟨by omega, by omega⟩) | walk_at "umul"))
  | ((with_reducible refine' s_ixT ?hc ?hd ?_); (case hc => assumption); (case hd => rfl))
  | ((with_reducible refine' s_lenL ?hc ?_); (case hc => first | assumption | exact SqL.of (by assumption))) | ((with_reducible refine' s_lenT ?hc ?_); (case hc => first | assumption | exact SqT.of (by assumption)))
  | ((with_reducible refine' s_divP ?hc ?hd ?_); (case hc => first | decide | assumption | omega); (case hd => first | decide +kernel | assumption)))
local macro_rules | `(tactic| walk_at "us") => `(tactic| repeat walk_at "us2")
local macro_rules | `(tactic| walk_at "uj") => `(tactic| ((walk_at "us"); with_reducible refine s_J ?_))
local macro_rules | `(tactic| walk_at "ua") => `(tactic| ((walk_at "us"); repeat ((with_reducible refine s_ick ?_); (first | (refine s_iF ?_) | (refine s_iT ?_)); (walk_at "us"))))
local macro_rules | `(tactic| walk_at "ub") => `(tactic| walk_at "ua")
local macro_rules | `(tactic| walk_at "ux1") => `(tactic| first
  | walk_at "us2" | ((with_reducible refine' s_ixL ?hc ?hd ?_); (case hc => first | assumption | exact SqL.of (by assumption)); (case hd => rfl)) | ((with_reducible refine' s_ixT ?hc ?hd ?_); (case hc => exact SqT.of (by assumption)); (case hd => rfl))
  | ((with_reducible refine' s_intS ?hc ?hd ?_); (case hc => assumption); (case hd => assumption)) | ((with_reducible refine' s_lenS ?hc ?_); (case hc => assumption)))
local macro_rules | `(tactic| walk_at "ux") => `(tactic| repeat walk_at "ux1")
local macro_rules | `(tactic| walk_at "uy") => `(tactic| ((walk_at "ux"); repeat ((with_reducible refine s_ick ?_); (first | (refine s_iF ?_) | (refine s_iT ?_)); (walk_at "ux"))))
local macro_rules | `(tactic| walk_at "uz0") => `(tactic| first
  | (with_reducible refine s_seq ?_) | (with_reducible refine s_asg ?_) | (with_reducible refine s_gn ?_) | (with_reducible refine s_ret ?_) | (with_reducible refine s_drop ?_) | (with_reducible refine s_if ?_) | (with_reducible refine s_next ?_)
  | (with_reducible refine s_brk ?_) | (with_reducible refine s_cont ?_)
  | ((with_reducible refine' s_var ?hv ?_); (case hv => exact rfl)) | (with_reducible refine s_c ?_) | (with_reducible refine s_op ?_) | (with_reducible refine s_un ?_) | (with_reducible refine s_cb ?_) | (with_reducible refine s_call ?_)
  | (with_reducible refine s_cons ?_) | (with_reducible refine s_nil ?_) | (with_reducible refine s_test ?_) | (with_reducible refine s_tB ?_) | (with_reducible refine s_not ?_) | (with_reducible refine s_and ?_) | (with_reducible refine s_or ?_)
  | (with_reducible refine s_andV ?_) | (with_reducible refine s_orV ?_) | (with_reducible refine s_notV ?_) | (with_reducible refine s_ifE ?_) | (with_reducible refine s_bl ?_) | (with_reducible refine s_iT ?_) | (with_reducible refine s_iF ?_)
  | (with_reducible refine s_I0 ?_) | (with_reducible refine s_U ?_) | (with_reducible refine s_addI ?_) | (with_reducible refine s_eqI ?_) | (with_reducible refine s_eqS ?_) | (with_reducible refine s_eqB ?_) | (with_reducible refine s_neI ?_) | (with_reducible refine s_neS ?_) | (with_reducible refine s_neB ?_))
local macro_rules | `(tactic| walk_at "uz2") => `(tactic| first
  | walk_at "uz0" | (with_reducible refine s_dput ?_) | ((with_reducible refine' s_mod ?hc ?_); (case hc => first | decide | assumption | omega))
  | (with_reducible refine s_for ?_) | (with_reducible refine s_lc ?_) | (with_reducible refine s_bm ?_) | (with_reducible refine s_ilt ?_) | (with_reducible refine s_izx ?_) | (with_reducible refine s_ienum ?_) | (with_reducible refine s_din ?_) | (with_reducible refine s_dnotin ?_) | (with_reducible refine s_itl ?_) | (with_reducible refine s_itt ?_) | (with_reducible refine s_its ?_) | (with_reducible refine s_itr ?_) | (with_reducible refine s_itr2 ?_) | (with_reducible refine s_disp ?_) | (with_reducible refine s_prn ?_) | (with_reducible refine s_prc ?_) | (with_reducible refine s_m1 ?_) | (with_reducible refine s_isS ?_) | (with_reducible refine s_um1 ?_) | (with_reducible refine s_isB ?_) | (with_reducible refine s_isn ?_) | (with_reducible refine s_notn ?_) | (with_reducible refine s_jd ?_) | (with_reducible refine s_jn ?_) | (with_reducible refine s_jc ?_) | (with_reducible refine s_fmt ?_) | (with_reducible refine s_gc ?_) | (with_reducible refine s_gnil ?_) | (with_reducible refine s_yes ?_) | (with_reducible refine s_raise ?_)
  | ((with_reducible refine' s_pow ?hc ?_); (case hc => exact ⟨by decide, by decide, by decide⟩)) | (with_reducible refine s_int ?_) | (with_reducible refine s_intB ?_) | (with_reducible refine s_strS ?_) | (with_reducible refine s_abs ?_) | (with_reducible refine s_max ?_) | (with_reducible refine s_min ?_) | (with_reducible refine s_gcd ?_)
  | (with_reducible refine s_chain ?_) | (with_reducible refine s_sl ?_) | (with_reducible refine s_noP ?_) | (with_reducible refine s_part ?_) | (with_reducible refine s_exI ?_) 
  | ((with_reducible refine' s_mulI ?hc ?_); (case hc => first | exact Or.inl (Or.inr ⟨by decide, by decide⟩) | exact Or.inl (Or.inl ⟨by decide, by decide⟩) | exact Or.inl (Or.inl ⟨by omega, by omega⟩) | exact Or.inl (Or.inr ⟨by omega, by omega⟩) | walk_at "umul"))
  | ((with_reducible refine' s_ixT ?hc ?hd ?_); (case hc => assumption); (case hd => rfl))
  | ((with_reducible refine' s_lenL ?hc ?_); (case hc => first | assumption | exact SqL.of (by assumption))) | ((with_reducible refine' s_lenT ?hc ?_); (case hc => first | assumption | exact SqT.of (by assumption)))
  | ((with_reducible refine' s_divP ?hc ?hd ?_); (case hc => first | decide | assumption | omega); (case hd => first | decide +kernel | assumption)))
local macro_rules | `(tactic| walk_at "uz1") => `(tactic| first
  | walk_at "uz2" | ((with_reducible refine' s_ixL ?hc ?hd ?_); (case hc => first | assumption | exact SqL.of (by assumption)); (case hd => rfl)) | ((with_reducible refine' s_ixT ?hc ?hd ?_); (case hc => exact SqT.of (by assumption)); (case hd => rfl))
  | ((with_reducible refine' s_intS ?hc ?hd ?_); (case hc => assumption); (case hd => assumption)) | ((with_reducible refine' s_lenS ?hc ?_); (case hc => assumption)))
local macro_rules | `(tactic| walk_at "uz") => `(tactic| ((repeat walk_at "uz1"); repeat ((with_reducible refine s_ick ?_); (first | (refine s_iF ?_) | (refine s_iT ?_)); (repeat walk_at "uz1"))))
/-- the pieces of a text: the mark before each but the first -/
def piecesL : List Nat → List Nat → List (List Nat)
  | acc, [] => [acc]
  | acc, c :: r => if c = 42 ∨ c = 47 then acc :: piecesL [c] r else piecesL (acc ++ [c]) r
def pcOf (t : Int × Str) : List Nat := (if t.1 = 1 then 42 else 47) :: t.2.cps.toList
theorem terms_head : ∀ (l : List Nat) (s : Int) (acc : List Nat), ∃ t r, termsL s acc l = (s, t) :: r
  | [], s, acc => ⟨_, _, rfl⟩
  | c :: r, s, acc => by
    rw [termsL]
    by_cases q : c = 42 ∨ c = 47
    · rw [if_pos q]; exact ⟨_, _, rfl⟩
    · rw [if_neg q]; exact terms_head r s _
theorem pieces_terms : ∀ (l : List Nat) (s : Int) (pre acc : List Nat), piecesL (pre ++ acc) l = match termsL s acc l with
    | [] => []
    | (_, t) :: r => (pre ++ t.cps.toList) :: r.map pcOf
  | [], s, pre, acc => rfl
  | c :: r, s, pre, acc => by
    rw [piecesL, termsL]
    by_cases q : c = 42 ∨ c = 47
    · rw [if_pos q, if_pos q]
      have ih := pieces_terms r (if c = 42 then 1 else -1) [c] []
      rw [List.append_nil] at ih
      obtain ⟨t, r', e⟩ := terms_head r (if c = 42 then 1 else -1) []
      rw [ih, e]
      show (pre ++ acc) :: ([c] ++ t.cps.toList) :: r'.map pcOf = (pre ++ acc) :: pcOf (_, t) :: r'.map pcOf
      have : pcOf ((if c = 42 then (1 : Int) else -1), t) = [c] ++ t.cps.toList := by
        unfold pcOf
        rcases q with q | q <;> subst q <;> rfl
      rw [this]
    · rw [if_neg q, if_neg q, List.append_assoc]
      exact pieces_terms r s pre (acc ++ [c])
def gapL (c : Nat) : List Nat := if c = 42 ∨ c = 47 then [32, c] else [c]
theorem spl_pieces : ∀ (l : List Nat) (acc : List Nat), 32 ∉ l → TL.spl [32] 0 acc (l.flatMap gapL) = piecesL acc l
  | [], acc, _ => TL.spl_nil _ _ _
  | c :: r, acc, h => by
    have hc : c ≠ 32 := fun q => h (by rw [q]; exact List.mem_cons_self)
    have hr : 32 ∉ r := fun q => h (List.mem_cons_of_mem _ q)
    rw [List.flatMap_cons, piecesL]
    by_cases q : c = 42 ∨ c = 47
    · rw [if_pos q, gapL, if_pos q]
      show TL.spl [32] 0 acc (32 :: c :: r.flatMap gapL) = _
      rw [TL.spl_hit (by rfl)]
      show acc :: TL.spl [32] 0 [] (c :: r.flatMap gapL) = _
      rw [TL.spl_miss (TL.pre_of_head [] _ hc), List.nil_append, spl_pieces r [c] hr]
    · rw [if_neg q, gapL, if_neg q]
      show TL.spl [32] 0 acc (c :: r.flatMap gapL) = _
      rw [TL.spl_miss (TL.pre_of_head [] _ hc), spl_pieces r _ hr]
theorem repl_one (y : Nat) (z : List Nat) : ∀ l : List Nat, StrLaws.replL [y] z l = l.flatMap fun c => if c = y then z else [c]
  | [] => StrLaws.replL_nil
  | c :: r => by
    rw [List.flatMap_cons]
    by_cases e : c = y
    · subst e
      rw [StrLaws.replL_hit (by simp) (by rfl), if_pos rfl]
      show z ++ StrLaws.replL [c] z r = _
      rw [repl_one c z r]
    · rw [StrLaws.replL_miss (by simp [e]), if_neg e, repl_one y z r]
      rfl
theorem rep_gap (z : Str) : (Txt.replace (Txt.replace z "*" " *") "/" " /").cps.toList = z.cps.toList.flatMap gapL := by
  rw [StrLaws.replace_list (by decide), StrLaws.replace_list (by decide)]
  show StrLaws.replL [47] [32, 47] (StrLaws.replL [42] [32, 42] z.cps.toList) = _
  rw [repl_one, repl_one]
  generalize z.cps.toList = l
  induction l with
  | nil => rfl
  | cons c r ih =>
    rw [List.flatMap_cons, List.flatMap_append, ih, List.flatMap_cons]
    congr 1
    unfold gapL
    by_cases e : c = 42
    · subst e; rfl
    · rw [if_neg e]
      by_cases e2 : c = 47
      · subst e2; rfl
      · simp [e, e2]
theorem pieces_split {z : Str} (h : 32 ∉ z.cps.toList) : (Txt.split (Txt.replace (Txt.replace z "*" " *") "/" " /") " ").map TL.tl = piecesL [] z.cps.toList := by
  rw [TL.split_spl _ _ (by decide) (TL.kind_ok (by decide +kernel))]
  show TL.spl [32] 0 [] (Txt.replace (Txt.replace z "*" " *") "/" " /").cps.toList = _
  rw [rep_gap, spl_pieces _ _ h]
theorem rdL_bad {ns : List Str} : ∀ {ts : List (Int × Str)} {i : Nat} {f : Str → Int} {t : Int × Str}, t ∈ ts → t.2 ≠ "1" → ((powV t.2).2 = 0 ∨ (powV t.2).1 ∉ ns) → rdL ns i ts f = none
  | (s, t) :: r, i, f, u, h, h1, hb => by
    rw [rdL]
    rcases List.mem_cons.mp h with e | h
    · subst e
      rw [if_neg (fun q => h1 q.2), if_pos hb]
    · split
      · exact rdL_bad h h1 hb
      · split
        · rfl
        · exact rdL_bad h h1 hb
theorem terms_mem : ∀ (l : List Nat) (s : Int) (acc : List Nat), 32 ∈ acc ∨ 32 ∈ l → ∃ t ∈ termsL s acc l, 32 ∈ t.2.cps.toList
  | [], s, acc, h => ⟨_, List.mem_singleton.mpr rfl, by rcases h with h | h; exact h; cases h⟩
  | c :: r, s, acc, h => by
    rw [termsL]
    by_cases q : c = 42 ∨ c = 47
    · rw [if_pos q]
      rcases h with h | h
      · exact ⟨_, List.mem_cons_self, h⟩
      · have hr : 32 ∈ r := by
          rcases List.mem_cons.mp h with e | h
          · omega
          · exact h
        obtain ⟨t, h1, h2⟩ := terms_mem r (if c = 42 then 1 else -1) [] (.inr hr)
        exact ⟨t, List.mem_cons_of_mem _ h1, h2⟩
    · rw [if_neg q]
      refine terms_mem r s _ ?_
      rcases h with h | h
      · exact .inl (List.mem_append_left _ h)
      · rcases List.mem_cons.mp h with e | h
        · exact .inl (by rw [e]; simp)
        · exact .inr h
theorem fig_32 {l : List Nat} (h : 32 ∈ l) : figL l = 0 := by
  match l with
  | [] => cases h
  | [c] =>
    have e : 32 = c := List.mem_singleton.mp h
    subst e
    rfl
  | [m, c] =>
    simp only [figL]
    rw [if_neg]
    simp at h
    omega
  | _ :: _ :: _ :: _ => rfl
theorem pow_32 {t : Str} {ns : List Str} (h : 32 ∈ t.cps.toList) (hn : ∀ n ∈ ns, 32 ∉ n.cps.toList) : (powV t).2 = 0 ∨ (powV t).1 ∉ ns := by
  have e := TL.partition_par t "^" (by decide)
  have es := StrLaws.partition_sum t "^"
  have e2 : TL.tl t = TL.tl (Txt.partition t "^").1 ++ TL.tl (Txt.partition t "^").2.1 ++ TL.tl (Txt.partition t "^").2.2 := by
    rw [← TL.tl_append, ← TL.tl_append, es]
  unfold powV
  cases q : TL.par (TL.tl ("^" : Str)) [] (TL.tl t) with
  | none =>
    rw [q] at e
    rw [e]
    exact .inr fun hm => hn t hm h
  | some ab =>
    obtain ⟨a, b⟩ := ab
    rw [q] at e
    rw [e] at e2 ⊢
    have h2 : 32 ∈ a ++ [94] ++ b := by
      have : TL.tl t = a ++ [94] ++ b := e2
      rw [← this]; exact h
    show (if ("^" : Str) = "" then _ else _ : Str × Int).2 = 0 ∨ (if ("^" : Str) = "" then _ else _ : Str × Int).1 ∉ ns
    rw [if_neg (by decide +kernel)]
    rcases List.mem_append.mp h2 with h2 | h2
    · rcases List.mem_append.mp h2 with h2 | h2
      · exact .inr fun hm => hn _ hm h2
      · simp at h2
    · exact .inl (fig_32 h2)
theorem terms_cnt : ∀ (l : List Nat) (s : Int) (acc : List Nat), (termsL s acc l).length ≤ l.length + 1
  | [], s, acc => Nat.le_refl _
  | c :: r, s, acc => by
    rw [termsL]
    by_cases q : c = 42 ∨ c = 47
    · rw [if_pos q, List.length_cons, List.length_cons]
      exact Nat.succ_le_succ (terms_cnt r _ _)
    · rw [if_neg q, List.length_cons]
      exact Nat.le_succ_of_le (terms_cnt r _ _)
theorem cut_min (w : Str) (k : Nat) : (cutS w (some (min (0 + (k : Int)) 1)) none).cps.toList = w.cps.toList.drop (min k 1) := by
  have nn : min (0 + (k : Int)) 1 = ((min k 1 : Nat) : Int) := by omega
  have ll := TL.len_tl w
  rw [nn]
  show ((w.cps.toList.drop (HT.sIx w.length 0 (some ((min k 1 : Nat) : Int)))).take (HT.sIx w.length w.length none - HT.sIx w.length 0 (some ((min k 1 : Nat) : Int)))).toArray.toList = _
  rw [HT.sIx_none, HT.sIx_nat]
  show (w.cps.toList.drop (min (min k 1) w.length)).take (w.length - min (min k 1) w.length) = _
  rw [List.take_of_length_le (by rw [List.length_drop]; show w.cps.toList.length - _ ≤ _; rw [← ll]; omega)]
  by_cases h : min k 1 ≤ w.length
  · rw [Nat.min_eq_left h]
  · rw [List.drop_eq_nil_of_le (by rw [← ll]; omega), List.drop_eq_nil_of_le (by rw [← ll]; omega)]
section
variable {P : Program} {w : World} {K : PySem.W.Frag} {mg : Str → Option Value} {base : Heap}
variable {cE cH cU cW : Addr}
theorem ok_l_powers_of (T : Tp P K mg cE cH cU cW)
    (c_l_figure_of : Cal P w K mg base 1 "_law_figure_of" P_l_figure_of [] (spFigure))
    {f : Addr} {fd : FuncData} {dvs : List V} (F : FunD K "_law_powers_of" "_law_powers_of" (defArgs s_l_powers_of) (defBody s_l_powers_of) (defScope s_l_powers_of) dvs [] f fd) : FnG P w K mg base 2 f fd P_l_powers_of (spPowers K) := by
  refine fng F sc_l_powers_of (by walk_at "ulen") (fun cdv A outer s H vs Q E hr0 hg0 h => ?_)
  have hr : Rm 1 (A.deeper (envOfC "_law_powers_of" (defScope s_l_powers_of) s.heap.objs.size f cdv)) := ⟨hr0, hg0⟩
  have nd : N_l_powers_of.Nodup := sc_l_powers_of.nd
  have po : PassesOwn (model P w) (cxOf (L2.CX P w) P w K mg base N_l_powers_of "_law_powers_of" (defScope s_l_powers_of) f cdv A outer s H E).A (cxOf (L2.CX P w) P w K mg base N_l_powers_of "_law_powers_of" (defScope s_l_powers_of) f cdv A outer s H E).env (cxOf (L2.CX P w) P w K mg base N_l_powers_of "_law_powers_of" (defScope s_l_powers_of) f cdv A outer s H E).xe := passes_of rfl
  obtain ⟨z, p, ns, rfl, hz, hp, nd1, h100, h32, k⟩ := h
  refine ⟨_, (pss_ifRet (ptt_or (pt_cmpR op_gt (pe_callB call_uLen (by rfl) T.len b_len (pa_cons (pv 0) pa_nil)) pe_int (nomark _)) (ptt_in op_uIn (pv 0) rfl)) pe_non
    (psst_cons (PST.of (ps_set (i := 2) nd rfl (Or.inr rfl) pe_dnewK))
    (psst_cons (PST.of (ps_for po rfl (pi_list (pv 1)) (pg_name (i := 3) nd rfl (Or.inl rfl))
    (pss_one (ps_dput (hu_of hr.r) (pv 2) (pv 3) pe_int rfl))))
    (psst_cons (pst_set (i := 4) nd rfl (Or.inl rfl) (pet_m1 PySem.F.slot_str_split PySem.F.type_str_split mt_uSplit (CwR.pet_replT (CwR.pet_replC (pv 0))) pe_str))
    (PSsT.of (pss_cons (ps_for po rfl (pi_range1 (by rfl) T.range (pa_cons (pe_callB call_uLen (by rfl) T.len b_len (pa_cons (pv 4) pa_nil)) pa_nil)) (pg_name (i := 5) nd rfl (Or.inl rfl))
    (pss_cons (ps_set (i := 6) nd rfl (Or.inl rfl) (pe_slice sl_u (pe_ix ix_seq (pv 4) (pv 5) (fun _ _ => rfl)) (po_some (pe_callB (call_uMin rfl) (by rfl) T.min b_min (pa_cons (pv 5) (pa_cons pe_int pa_nil)))) po_none))
    (pss_one (ps_if (PW.pt (pw_or (pt_cmpR op_gt (pv 5) pe_int (nomark _)) (pw_or1 (pt_cmpR (op_uNe hr.r.units) (pv 6) pe_str (nomark _))))) (pss_cons (ps_asg (pe_m1 PySem.F.slot_str_partition PySem.F.type_str_partition mt_uPart (pv 6) pe_str) (pg_tup rfl (pgs_cons (pg_name (i := 3) nd rfl (Or.inl rfl)) (pgs_cons (pg_name (i := 7) nd rfl (Or.inl rfl)) (pgs_cons (pg_name (i := 8) nd rfl (Or.inl rfl)) pgs_nil)))))
    (pss_consJ (ps_set (i := 9) nd rfl (Or.inl rfl) (pe_ifExp (pt_cmpR (op_uEq hr.r.units) (pv 7) pe_str (nomark _)) pe_int (pe_c (E := En) c_l_figure_of (hr.mono (by decide)) paN (pa_cons (pv 8) pa_nil))))
    (pss_cons (ps_if (PW.pt (pw_or (pt_cmpR (op_uEq hr.r.units) (pv 9) pe_int (nomark _)) (pw_or1 (pt_cmp (pc_dnotin (hu_of hr.r) (pv 3) (pv 2)))))) (pss_one (ps_ret pe_non)) pss_nil)
    (pss_one (ps_dput (hu_of hr.r) (pv 2) (pv 3) (pe_ifExp (PW.pt (pw_and (pt_cmpR op_gt (pv 5) pe_int (nomark _)) (pw_and1 (pt_cmpR (op_uEq hr.r.units) (pe_ix ix_seq (pe_ix ix_seq (pv 4) (pv 5) (fun _ _ => rfl)) pe_int (fun _ _ => rfl)) pe_str (nomark _))))) (pe_op op_sub (pe_dget (hu_of hr.r) (pv 2) (pv 3) (fun _ _ => rfl)) (pv 9)) (pe_op op_uAdd (pe_dget (hu_of hr.r) (pv 2) (pv 3) (fun _ _ => rfl)) (pv 9))) rfl))))) pss_nil))))
    (pss_cons (ps_for po rfl (pi_list (pv 1)) (pg_name (i := 3) nd rfl (Or.inl rfl))
    (pss_one (ps_if (pt_not (pt_chain op_le op_le (pe_un un_neg pe_int) (pe_dget (hu_of hr.r) (pv 2) (pv 3) (fun _ _ => rfl)) pe_int)) (pss_one (ps_ret pe_non)) pss_nil)))
    (pss_one (ps_ret (pe_callTy call_uTup (by rfl) T.tuple b_tuple (pa_cons (pe_lc (own := [("_law_name", 3)]) (g := gName 3) (by rfl) nd (pi_list (pv 1)) (blkOk_by (own := [("_law_name", 3)]) (N := N_l_powers_of) (sc := defScope s_l_powers_of) (by decide +kernel)) (fun s_ H_ C_ cl_ fp_ => pg_name (i := 3) nd rfl (Or.inl rfl)) (fun s_ H_ C_ cl_ fp_ => pts_nil) (fun s_ H_ C_ cl_ fp_ => (pe_dget (hu_of hr.r) (pv 2) (pv 3) (fun _ _ => rfl)))) pa_nil))))))))))), ?_⟩
  walk_at "uk"
  walk_at "uy"
  refine s_lenS (by show _ ≤ 16777216; omega) ?_
  walk_at "uy"
  refine s_ite (fun h200 => ?_) (fun h200 => ?_)
  · walk_at "uy"
    refine k .non H (exR H) (.inl ⟨?_, rfl⟩)
    unfold readV
    rw [if_pos (by omega)]
  walk_at "uy"
  refine ⟨32, rfl, ?_⟩
  rw [Bool.false_xor]
  walk_at "uy"
  refine s_ite (fun hsp => ?_) (fun hsp => ?_)
  · walk_at "uy"
    refine k .non H (exR H) (.inl ⟨?_, rfl⟩)
    obtain ⟨t, ht, h3⟩ := terms_mem z.cps.toList 1 [] (.inr hsp)
    unfold readV
    rw [if_neg (by omega), show rdL ns 0 (termsV z) (fun _ => 0) = none from rdL_bad ht (fun q => by rw [q] at h3; exact absurd h3 (by decide +kernel)) (pow_32 h3 h32)]
  walk_at "uy"
  refine s_dnew fun s hs => ?_
  walk_at "uy"
  have e0 := exN (o := .dK []) hs
  have hp0 := Ex.sl hp e0
  have d0 : Dx s (upd H s (.dK [])) (upd H s (.dK [])) := Dx.refl upd_same
  have hs0 : upd H s (.dK []) s = some (.dK (sumsK (ns.take 0) fun _ => 0)) := upd_same
  generalize upd H s (.dK []) = H0 at e0 hp0 d0 hs0
  refine loopL (xs := ns.map V.str) (fun i σ' H' => Dx s H0 H' ∧ H' s = some (.dK (sumsK (ns.take i) fun _ => 0)) ∧ ∃ o, σ' = [some (.str z), some (.ref p), (some (.ref s)), o, none, none, none, none, none, none]) ⟨d0, hs0, none, rfl⟩ (fun i σ' H' h => (h.1.kx _ _).1 hp0) ?_ ?_
  · rintro σ' H1 ⟨d1, hs1, o, rfl⟩
    rw [List.length_map, List.take_length] at hs1
    walk_at "uy"
    have hz2 : z.length ≤ 200 := by omega
    have r1 := TK.replace_len z "*" " *"
    have r2 := TK.replace_len (Txt.replace z "*" " *") "/" " /"
    have o1 : ((" *" : Str)).length = 2 := rfl
    have o2 : ((" /" : Str)).length = 2 := rfl
    rw [o1] at r1
    rw [o2] at r2
    refine ⟨.str z, rfl, z, rfl, by rw [o1]; omega, _, rfl, by rw [o2]; omega, ⟨_, rfl⟩, ?_⟩
    walk_at "uy"
    refine s_usplit (b := " ") (by decide +kernel) (by show _ ≤ 16777216; omega) fun l nl => ?_
    have ps := pieces_split hsp
    have pt := pieces_terms z.cps.toList 1 [] []
    obtain ⟨t0, r0, et⟩ := terms_head z.cps.toList 1 []
    rw [List.nil_append, et] at pt
    rw [pt] at ps
    have etv : termsV z = (1, t0) :: r0 := et
    have hl1 : (Txt.split (Txt.replace (Txt.replace z "*" " *") "/" " /") " ").length = (termsV z).length := by
      have := congrArg List.length ps
      rw [List.length_map] at this
      rw [this, etv]
      simp
    have d2 := d1.ex (exN (o := .lst ((Txt.split (Txt.replace (Txt.replace z "*" " *") "/" " /") " ").map V.str)) nl)
    have hs2 := exN (o := .lst ((Txt.split (Txt.replace (Txt.replace z "*" " *") "/" " /") " ").map V.str)) nl _ _ hs1
    have fl : upd H1 l (.lst ((Txt.split (Txt.replace (Txt.replace z "*" " *") "/" " /") " ").map V.str)) l = some (.lst ((Txt.split (Txt.replace (Txt.replace z "*" " *") "/" " /") " ").map V.str)) := upd_same
    generalize upd H1 l (.lst ((Txt.split (Txt.replace (Txt.replace z "*" " *") "/" " /") " ").map V.str)) = H2 at d2 hs2 fl
    generalize Txt.split (Txt.replace (Txt.replace z "*" " *") "/" " /") " " = pcs at ps hl1 fl
    have hget : ∀ (k : Nat) (s : Int) (t : Str), (termsV z)[k]? = some (s, t) → ∃ pc : Str, pcs[k]? = some pc ∧ pc.cps.toList.drop (min k 1) = t.cps.toList ∧ (0 < k → pc.cps.toList = (if s = 1 then 42 else 47) :: t.cps.toList) := fun k s t h => by
      have hk : k < pcs.length := by rw [hl1]; exact (List.getElem?_eq_some_iff.mp h).1
      refine ⟨pcs[k], List.getElem?_eq_getElem hk, ?_⟩
      have hp2 : (pcs.map TL.tl)[k]? = some (pcs[k]).cps.toList := by rw [List.getElem?_map, List.getElem?_eq_getElem hk]; rfl
      rw [ps] at hp2
      rw [etv] at h
      cases k with
      | zero =>
        cases h
        have this : t0.cps.toList = (pcs[0]).cps.toList := by simpa using hp2
        exact ⟨this.symm, fun q => absurd q (by decide)⟩
      | succ k =>
        have h' : r0[k]? = some (s, t) := by simpa using h
        have hp3 : (r0.map pcOf)[k]? = some (pcs[k + 1]).cps.toList := by simpa using hp2
        rw [List.getElem?_map, h'] at hp3
        have e : pcOf (s, t) = (pcs[k + 1]).cps.toList := Option.some.inj hp3
        rw [← e]
        exact ⟨by rw [Nat.min_eq_right (by omega)]; rfl, fun _ => rfl⟩
    clear ps pt
    walk_at "uy"
    refine ⟨_, rfl, by rw [List.length_map]; omega, by rw [List.length_map, hl1]; have := terms_cnt z.cps.toList 1 []; have hlz : z.cps.toList.length = z.length := Array.length_toList; show ((termsL 1 [] z.cps.toList).length : Int) < _; omega, ?_⟩
    have dq : Dx s H2 H2 := Dx.refl hs2
    refine loopR (n := ((pcs.map V.str).length : Int).toNat) (fun i σ' H' => Dx s H2 H' ∧ ∃ (f : Str → Int) (o3 o5 o6 o7 o8 o9 : Option V), H' s = some (.dK (sumsK ns f)) ∧ rdL ns i ((termsV z).drop i) f = rdL ns 0 (termsV z) (fun _ => 0) ∧
      σ' = [some (.str z), some (.ref p), (some (.ref s)), o3, (some (.ref l)), o5, o6, o7, o8, o9]) ⟨dq, _, _, none, none, none, none, none, hs2, rfl, rfl⟩ ?_ ?_
    · rintro σ' H3 ⟨d3, f, o3, o5, o6, o7, o8, o9, hs3, hr, rfl⟩
      rw [List.drop_eq_nil_of_le (by rw [List.length_map]; omega), rdL] at hr
      have hv : readV z ns = if inR (ns.map f) = true then some (ns.map f) else none := by
        unfold readV
        rw [if_neg (by omega), ← hr]
      have hp3 := ((d2.tr d3).kx _ _).1 hp0
      have e3 : Ex H H3 := (d2.tr d3).from hs e0
      walk_at "uy"
      refine loopL (xs := ns.map V.str) (fun i σ' H' => H3 = H' ∧ inR ((ns.take i).map f) = true ∧ ∃ o3, σ' = [some (.str z), some (.ref p), (some (.ref s)), o3, (some (.ref l)), o5, o6, o7, o8, o9]) ⟨rfl, rfl, o3, rfl⟩ (fun i σ' H' h => by rw [← h.1]; exact hp3) ?_ ?_
      · rintro σ' _ ⟨rfl, hin, o3, rfl⟩
        rw [List.length_map, List.take_length] at hin
        walk_at "uy"
        refine lcL hp3 (fun D i acc H' => Ex H3 H' ∧ H' D = some (.lst acc) ∧ acc = ((ns.take i).map f).map V.int) (fun D n => ⟨exN n, upd_same, rfl⟩) (fun D i acc H' h => h.1) ?_ ?_
        · rintro D acc H4 nD ⟨e4, hD, rfl⟩
          rw [List.length_map, List.take_length] at hD
          walk_at "uy"
          refine s_tupOfL (.of hD) fun r H5 e5 hr5 => ?_
          exact k _ H5 ((e3.tr e4).tr e5) (.inr ⟨ns.map f, by rw [hv, if_pos hin], r, rfl, hr5⟩)
        · rintro D i x acc H4 nD hx ⟨e4, hD, rfl⟩
          obtain ⟨n, hn, rfl⟩ := str_get hx
          refine ⟨rfl, s_yes (s_iT ?_)⟩
          refine s_dget ?_
          walk_at "uy"
          refine ⟨s, _, rfl, dget_s (e4 _ _ hs3) (by rw [valV_sums, if_pos (List.mem_of_getElem? hn)]), ?_⟩
          refine ⟨_, hD, by rw [List.length_map, List.length_map, List.length_take]; show _ < 16777216; omega, _, ex_put nD e4, upd_same, ?_⟩
          rw [List.take_add_one, hn, List.map_append, List.map_append]
          rfl
      · rintro i x σ' _ hx ⟨rfl, hin, o3, rfl⟩
        obtain ⟨n, hn, rfl⟩ := str_get hx
        walk_at "uy"
        refine s_dget ?_
        walk_at "uy"
        refine ⟨s, _, rfl, dget_s hs3 (by rw [valV_sums, if_pos (List.mem_of_getElem? hn)]), ?_⟩
        have tk : inR ((ns.take (i + 1)).map f) = (inR ((ns.take i).map f) && (decide (-9 ≤ f n) && decide (f n ≤ 9))) := by
          rw [List.take_add_one, hn, List.map_append]
          unfold inR
          rw [List.all_append]
          simp
        have bad : (decide (-9 ≤ f n) && decide (f n ≤ 9)) = false → Q .non H3 := fun hb => k .non H3 e3 (.inl ⟨(by
          rw [hv, if_neg]
          intro q
          have := List.all_eq_true.mp q (f n) (List.mem_map_of_mem (List.mem_of_getElem? hn))
          rw [hb] at this
          cases this), rfl⟩)
        walk_at "uy"
        refine s_ite (fun h1 => ?_) (fun h1 => ?_)
        · walk_at "uy"
          refine s_iteN (fun h2 => ?_) (fun h2 => ?_)
          · walk_at "uy"
            exact bad (by rw [decide_eq_false h2, Bool.and_false])
          · walk_at "uy"
            exact ⟨rfl, by rw [tk, hin, decide_eq_true h1, decide_eq_true h2]; rfl, _, rfl⟩
        · walk_at "uy"
          exact bad (by rw [decide_eq_false h1, Bool.false_and])
    · rintro i σ' H3 hi ⟨d3, f, o3, o5, o6, o7, o8, o9, hs3, hr, rfl⟩
      have hi2 : i < (termsV z).length := by rw [List.length_map] at hi; omega
      obtain ⟨⟨sg, t⟩, ht2⟩ : ∃ x, (termsV z)[i]? = some x := ⟨_, List.getElem?_eq_getElem hi2⟩
      obtain ⟨pc, hpc, hdrop, hmark⟩ := hget i sg t ht2
      rw [rd_one ht2] at hr
      have an : atI (pcs.map V.str) (0 + (i : Int)) = some (.str pc) := by rw [Int.zero_add]; exact atI_nat (by rw [List.getElem?_map, hpc]; rfl)
      have hl3 := (d3.kx (K := K) l _).1 (.of fl)
      have htl := terms_len _ 1 [] _ (List.mem_of_getElem? ht2)
      have hsg := terms_sgn _ 1 [] (.inl rfl) _ (List.mem_of_getElem? ht2)
      have ltz : z.cps.toList.length = z.length := Array.length_toList
      have htl' : t.length ≤ z.cps.toList.length := by simpa only [List.length_nil, Nat.zero_add] using htl
      have lpc : pc.length ≤ t.length + 1 := by
        have l1 := congrArg List.length hdrop
        rw [List.length_drop] at l1
        have l2 := TL.len_tl pc
        have l3 := TL.len_tl t
        show pc.length ≤ _
        rw [l2, l3]
        show pc.cps.toList.length ≤ t.cps.toList.length + 1
        omega
      have epc : cutS pc (some (min (0 + (i : Int)) 1)) none = t := TL.ext_tl ((cut_min pc i).trans hdrop)
      refine s_gn ?_
      refine s_far fun D' hnx hct hbk hrt => ?_
      clear hct hbk
      walk_at "ux"
      refine s_ixL hl3 an ?_
      walk_at "uy"
      refine s_slS (by show _ ≤ 16777216; omega) ?_
      rw [epc]
      refine s_gn ?_
      dsimp only
      refine s_ifM (¬ (i = 0 ∧ t = "1")) (fun hno => ?_) (fun P1 hP => ?_)
      · rw [if_neg hno] at hr
        walk_at "uy"
        refine s_upart (by decide +kernel) (by show _ ≤ 16777216; omega) fun tp ntp => ?_
        have e4 := exN (o := .tup [.str (Txt.partition t "^").1, .str (Txt.partition t "^").2.1, .str (Txt.partition t "^").2.2]) ntp
        have d4 := d3.ex e4
        have hs4 := e4 _ _ hs3
        have ft : upd H3 tp (.tup [.str (Txt.partition t "^").1, .str (Txt.partition t "^").2.1, .str (Txt.partition t "^").2.2]) tp = some (.tup [.str (Txt.partition t "^").1, .str (Txt.partition t "^").2.1, .str (Txt.partition t "^").2.2]) := upd_same
        have hl4 := (d4.kx (K := K) l _).1 (.of fl)
        generalize upd H3 tp (.tup [.str (Txt.partition t "^").1, .str (Txt.partition t "^").2.1, .str (Txt.partition t "^").2.2]) = H4 at e4 d4 hs4 ft hl4
        refine s_gt (.of ft) rfl ?_
        have pr := pow_rng t
        have p1 : (powV t).1 = (Txt.partition t "^").1 := by unfold powV; by_cases q : (Txt.partition t "^").2.1 = "" <;> simp [q]
        have pl := (fact_partition t "^").2.2
        rw [p1] at hr
        generalize (Txt.partition t "^").1 = nm at hr
        have p2 : (powV t).2 = if (Txt.partition t "^").2.1 = "" then 1 else figL (Txt.partition t "^").2.2.cps.toList := by unfold powV; by_cases q : (Txt.partition t "^").2.1 = "" <;> simp [q]
        walk_at "uj"
        refine s_seqJ (fun σ' H' => H4 = H' ∧ σ' = [some (.str z), some (.ref p), (some (.ref s)), (some (.str nm)), (some (.ref l)), (some (.int (0 + i))), (some (.str t)), (some (.str (Txt.partition t "^").2.1)), (some (.str (Txt.partition t "^").2.2)), (some (.int (powV t).2))]) ?_ (fun R hR => ?_)
        · rintro σ' _ ⟨rfl, rfl⟩
          generalize (powV t).2 = pw at hr pr
          generalize (Txt.partition t "^").2.1 = mk
          generalize (Txt.partition t "^").2.2 = rs
          have none_ : (pw = 0 ∨ nm ∉ ns) → D'.rt .non H4 := fun h => hrt _ _ (k .non H4 ((d2.tr d4).from hs e0) (.inl ⟨(by
            unfold readV
            rw [if_neg (by omega), ← hr, if_pos h]), rfl⟩))
          walk_at "ux"
          refine s_ite (fun h0 => ?_) (fun h0 => ?_)
          · walk_at "uy"
            exact none_ (.inl h0)
          walk_at "ux"
          refine ⟨s, _, rfl, dget_s hs4 valV_sums, ?_⟩
          walk_at "ux"
          by_cases hm : nm ∈ ns
          · rw [if_pos hm]
            rw [if_neg (fun q => q.elim h0 (fun q => q hm))] at hr
            walk_at "uy"
            have fin : ∀ x : Int, x = f nm + sg * pw → ∃ a H5, V.ref s = .ref a ∧ DPut H4 a (.str nm) (.int x) H5 ∧ D'.nx [some (.str z), some (.ref p), (some (.ref s)), (some (.str nm)), (some (.ref l)), (some (.int (0 + i))), (some (.str t)), (some (.str mk)), (some (.str rs)), (some (.int pw))] H5 := fun x ex => ⟨s, _, rfl, by rw [ex]; exact dput_s hs4 (by unfold sumsK; rw [List.length_map]; show _ < 16777216; omega) (putK_sums hm), hnx _ _ ⟨d4.put, _, _, _, _, _, _, _, upd_same, hr, rfl⟩⟩
            refine s_ite (fun hi0 => ?_) (fun hi0 => ?_)
            · walk_at "ux"
              refine s_ixL hl4 an ?_
              walk_at "ux"
              have pm := hmark (by omega)
              have ac : atI pc.cps.toList 0 = some (if sg = 1 then 42 else 47) := atI_nat (j := 0) (by rw [pm]; rfl)
              refine s_ixS (by show _ ≤ 16777216; omega) ac ?_
              walk_at "ux"
              rw [show decide ((⟨#[if sg = 1 then 42 else 47]⟩ : Str) = "/") = decide ((if sg = 1 then 42 else 47) = 47) from sign_eq _ 47]
              have hsg' : sg = 1 ∨ sg = -1 := hsg
              rcases hsg' with e | e
              · rw [if_pos e, decide_eq_false (show ¬ (42 = 47) by decide)]
                walk_at "ux"
                refine s_dget ?_
                walk_at "ux"
                refine ⟨s, _, rfl, dget_s hs4 (by rw [valV_sums, if_pos hm]), ?_⟩
                walk_at "ux"
                exact fin _ (by rw [e, Int.one_mul])
              · rw [if_neg (show ¬ sg = 1 by omega), decide_eq_true (show (47 : Nat) = 47 from rfl)]
                walk_at "ux"
                refine s_dget ?_
                walk_at "ux"
                refine ⟨s, _, rfl, dget_s hs4 (by rw [valV_sums, if_pos hm]), ?_⟩
                walk_at "ux"
                exact fin _ (by rw [e]; omega)
            · walk_at "ux"
              have i0 : i = 0 := by omega
              have e : sg = 1 := by
                rw [i0, etv] at ht2
                cases ht2
                rfl
              refine s_dget ?_
              walk_at "ux"
              refine ⟨s, _, rfl, dget_s hs4 (by rw [valV_sums, if_pos hm]), ?_⟩
              walk_at "ux"
              exact fin _ (by rw [e, Int.one_mul])
          · rw [if_neg hm]
            walk_at "uy"
            exact none_ (.inr hm)
        · walk_at "ux"
          refine s_ite (fun hm => ?_) (fun hm => ?_)
          · walk_at "ux"
            exact hR _ _ ⟨rfl, by rw [p2, if_pos hm]; rfl⟩
          · walk_at "ux"
            refine ⟨_, rfl, by omega, ?_⟩
            walk_at "ux"
            exact hR _ _ ⟨rfl, by rw [p2, if_neg hm]; rfl⟩
      · walk_at "uy"
        refine s_ite (fun h0 => ?_) (fun h0 => ?_)
        · walk_at "uy"
          exact hP (fun q => by omega)
        walk_at "uy"
        refine s_iteN (fun h1 => ?_) (fun h1 => ?_)
        · exact hP (fun q => h1 q.2)
        · walk_at "uy"
          rw [if_pos ⟨by omega, h1⟩] at hr
          exact hnx _ _ ⟨d3, f, _, _, _, _, _, _, hs3, hr, rfl⟩
  · rintro i x σ' H1 hx ⟨d1, hs1, o, rfl⟩
    obtain ⟨n, hn, rfl⟩ := str_get hx
    walk_at "uy"
    have nn : n ∉ ns.take i := fun hm => by
      obtain ⟨j, hj⟩ := List.mem_iff_getElem?.mp hm
      have hjl : j < (ns.take i).length := (List.getElem?_eq_some_iff.mp hj).1
      rw [List.length_take] at hjl
      rw [List.getElem?_take, if_pos (by omega)] at hj
      have := nodup_inj nd1 hj hn
      omega
    refine ⟨s, _, rfl, dput_s hs1 (by unfold sumsK; rw [List.length_map, List.length_take]; show _ < 16777216; omega) (putK_sums_new (f := fun _ => 0) nn), d1.put, ?_, _, rfl⟩
    rw [List.take_add_one, hn]
    exact upd_same
end
end Lw

set_option Elab.async false
set_option linter.all false
set_option maxRecDepth 100000
set_option maxHeartbeats 4000000
namespace Lw
open PySem PySem.Spec L2 Uv
open PyProof.Rows hiding St
local macro_rules | `(tactic| walk_at "umul") => `(tactic| fail)
local macro_rules | `(tactic| walk_at "us1") => `(tactic| first
  | (with_reducible refine s_seq ?_) | (with_reducible refine s_asg ?_) | (with_reducible refine s_gn ?_) | (with_reducible refine s_ret ?_) | (with_reducible refine s_drop ?_) | (with_reducible refine s_if ?_) | (with_reducible refine s_next ?_)
  | (with_reducible refine s_brk ?_) | (with_reducible refine s_cont ?_)
  | ((with_reducible refine' s_var ?hv ?_); (case hv => exact rfl)) | (with_reducible refine s_c ?_) | (with_reducible refine s_op ?_) | (with_reducible refine s_un ?_) | (with_reducible refine s_cb ?_) | (with_reducible refine s_call ?_)
  | (with_reducible refine s_cons ?_) | (with_reducible refine s_nil ?_) | (with_reducible refine s_test ?_) | (with_reducible refine s_tB ?_) | (with_reducible refine s_not ?_) | (with_reducible refine s_and ?_) | (with_reducible refine s_or ?_)
  | (with_reducible refine s_andV ?_) | (with_reducible refine s_orV ?_) | (with_reducible refine s_notV ?_) | (with_reducible refine s_ifE ?_) | (with_reducible refine s_bl ?_) | (with_reducible refine s_iT ?_) | (with_reducible refine s_iF ?_)
  | (with_reducible refine s_I0 ?_) | (with_reducible refine s_U ?_) | (with_reducible refine s_addI ?_) | (with_reducible refine s_eqI ?_) | (with_reducible refine s_eqS ?_) | (with_reducible refine s_eqB ?_) | (with_reducible refine s_neI ?_) | (with_reducible refine s_neS ?_) | (with_reducible refine s_neB ?_)
  | (with_reducible refine s_tupE ?_) | (with_reducible refine s_lstE ?_))
local macro_rules | `(tactic| walk_at "us") => `(tactic| repeat walk_at "us1")
local macro_rules | `(tactic| walk_at "ulen") => `(tactic| (intro vs H Q E h; repeat' (first | (obtain ⟨e, _⟩ := h; subst e; rfl) | (subst h; rfl) | (refine Or.elim h (fun h => ?_) (fun h => ?_)) | (obtain ⟨_, h⟩ := h))))
local macro_rules | `(tactic| walk_at "uk") => `(tactic| (try dsimp only [cxOf, Cx.suite, Cx.tr]))
local macro_rules | `(tactic| walk_at "us2") => `(tactic| first
  | walk_at "us1" | (with_reducible refine s_dput ?_) | ((with_reducible refine' s_mod ?hc ?_); (case hc => first | decide | assumption | omega))
  | (with_reducible refine s_for ?_) | (with_reducible refine s_lc ?_) | (with_reducible refine s_bm ?_) | (with_reducible refine s_ilt ?_) | (with_reducible refine s_izx ?_) | (with_reducible refine s_ienum ?_) | (with_reducible refine s_din ?_) | (with_reducible refine s_dnotin ?_) | (with_reducible refine s_itl ?_) | (with_reducible refine s_itt ?_) | (with_reducible refine s_its ?_) | (with_reducible refine s_itr ?_) | (with_reducible refine s_itr2 ?_) | (with_reducible refine s_disp ?_) | (with_reducible refine s_prn ?_) | (with_reducible refine s_prc ?_) | (with_reducible refine s_m1 ?_) | (with_reducible refine s_isS ?_) | (with_reducible refine s_um1 ?_) | (with_reducible refine s_isB ?_) | (with_reducible refine s_isn ?_) | (with_reducible refine s_notn ?_) | (with_reducible refine s_jd ?_) | (with_reducible refine s_jn ?_) | (with_reducible refine s_jc ?_) | (with_reducible refine s_fmt ?_) | (with_reducible refine s_gc ?_) | (with_reducible refine s_gnil ?_) | (with_reducible refine s_yes ?_) | (with_reducible refine s_raise ?_)
  | ((with_reducible refine' s_pow ?hc ?_); (case hc => exact ⟨by decide, by decide, by decide⟩)) | (with_reducible refine s_int ?_) | (with_reducible refine s_intB ?_) | (with_reducible refine s_strS ?_) | (with_reducible refine s_abs ?_) | (with_reducible refine s_max ?_) | (with_reducible refine s_min ?_) | (with_reducible refine s_gcd ?_)
  | (with_reducible refine s_chain ?_) | (with_reducible refine s_sl ?_) | (with_reducible refine s_noP ?_) | (with_reducible refine s_part ?_) | (with_reducible refine s_exI ?_) 
  | ((with_reducible refine' s_mulI ?hc ?_); (case hc => first | exact Or.inl (Or.inr ⟨by decide, by decide⟩) | exact Or.inl (Or.inl ⟨by decide, by decide⟩) | exact Or.inl (Or.inl ⟨by omega, by omega⟩) | exact Or.inl (Or.inr ⟨by omega, by omega⟩) | walk_at "umul"))
  | ((with_reducible refine' s_ixT ?hc ?hd ?_); (case hc => assumption); (case hd => rfl))
  | ((with_reducible refine' s_lenL ?hc ?_); (case hc => first | assumption | exact SqL.of (by assumption))) | ((with_reducible refine' s_lenT ?hc ?_); (case hc => first | assumption | exact SqT.of (by assumption)))
  | ((with_reducible refine' s_divP ?hc ?hd ?_); (case hc => first | decide | assumption | omega); (case hd => first | decide +kernel | assumption)))
local macro_rules | `(tactic| walk_at "us") => `(tactic| repeat walk_at "us2")
local macro_rules | `(tactic| walk_at "uj") => `(tactic| ((walk_at "us"); with_reducible refine s_J ?_))
local macro_rules | `(tactic| walk_at "ua") => `(tactic| ((walk_at "us"); repeat ((first | (refine s_iF ?_) | (refine s_iT ?_)); (walk_at "us"))))
local macro_rules | `(tactic| walk_at "ub") => `(tactic| walk_at "ua")
local macro_rules | `(tactic| walk_at "ux1") => `(tactic| first
  | walk_at "us2" | ((with_reducible refine' s_ixL ?hc ?hd ?_); (case hc => first | assumption | exact SqL.of (by assumption)); (case hd => rfl)) | ((with_reducible refine' s_ixT ?hc ?hd ?_); (case hc => exact SqT.of (by assumption)); (case hd => rfl))
  | ((with_reducible refine' s_intS ?hc ?hd ?_); (case hc => assumption); (case hd => assumption)) | ((with_reducible refine' s_lenS ?hc ?_); (case hc => assumption)))
local macro_rules | `(tactic| walk_at "ux") => `(tactic| repeat walk_at "ux1")
local macro_rules | `(tactic| walk_at "uy") => `(tactic| ((walk_at "ux"); repeat ((first | (refine s_iF ?_) | (refine s_iT ?_)); (walk_at "ux"))))
local macro_rules | `(tactic| walk_at "uz0") => `(tactic| first
  | (with_reducible refine s_seq ?_) | (with_reducible refine s_asg ?_) | (with_reducible refine s_gn ?_) | (with_reducible refine s_ret ?_) | (with_reducible refine s_drop ?_) | (with_reducible refine s_if ?_) | (with_reducible refine s_next ?_)
  | (with_reducible refine s_brk ?_) | (with_reducible refine s_cont ?_)
  | ((with_reducible refine' s_var ?hv ?_); (case hv => exact rfl)) | (with_reducible refine s_c ?_) | (with_reducible refine s_op ?_) | (with_reducible refine s_un ?_) | (with_reducible refine s_cb ?_) | (with_reducible refine s_call ?_)
  | (with_reducible refine s_cons ?_) | (with_reducible refine s_nil ?_) | (with_reducible refine s_test ?_) | (with_reducible refine s_tB ?_) | (with_reducible refine s_not ?_) | (with_reducible refine s_and ?_) | (with_reducible refine s_or ?_)
  | (with_reducible refine s_andV ?_) | (with_reducible refine s_orV ?_) | (with_reducible refine s_notV ?_) | (with_reducible refine s_ifE ?_) | (with_reducible refine s_bl ?_) | (with_reducible refine s_iT ?_) | (with_reducible refine s_iF ?_)
  | (with_reducible refine s_I0 ?_) | (with_reducible refine s_U ?_) | (with_reducible refine s_addI ?_) | (with_reducible refine s_eqI ?_) | (with_reducible refine s_eqS ?_) | (with_reducible refine s_eqB ?_) | (with_reducible refine s_neI ?_) | (with_reducible refine s_neS ?_) | (with_reducible refine s_neB ?_))
local macro_rules | `(tactic| walk_at "uz2") => `(tactic| first
  | walk_at "uz0" | (with_reducible refine s_dput ?_) | ((with_reducible refine' s_mod ?hc ?_); (case hc => first | decide | assumption | omega))
  | (with_reducible refine s_for ?_) | (with_reducible refine s_lc ?_) | (with_reducible refine s_bm ?_) | (with_reducible refine s_ilt ?_) | (with_reducible refine s_izx ?_) | (with_reducible refine s_ienum ?_) | (with_reducible refine s_din ?_) | (with_reducible refine s_dnotin ?_) | (with_reducible refine s_itl ?_) | (with_reducible refine s_itt ?_) | (with_reducible refine s_its ?_) | (with_reducible refine s_itr ?_) | (with_reducible refine s_itr2 ?_) | (with_reducible refine s_disp ?_) | (with_reducible refine s_prn ?_) | (with_reducible refine s_prc ?_) | (with_reducible refine s_m1 ?_) | (with_reducible refine s_isS ?_) | (with_reducible refine s_um1 ?_) | (with_reducible refine s_isB ?_) | (with_reducible refine s_isn ?_) | (with_reducible refine s_notn ?_) | (with_reducible refine s_jd ?_) | (with_reducible refine s_jn ?_) | (with_reducible refine s_jc ?_) | (with_reducible refine s_fmt ?_) | (with_reducible refine s_gc ?_) | (with_reducible refine s_gnil ?_) | (with_reducible refine s_yes ?_) | (with_reducible refine s_raise ?_)
  | ((with_reducible refine' s_pow ?hc ?_); (case hc => exact ⟨by decide, by decide, by decide⟩)) | (with_reducible refine s_int ?_) | (with_reducible refine s_intB ?_) | (with_reducible refine s_strS ?_) | (with_reducible refine s_abs ?_) | (with_reducible refine s_max ?_) | (with_reducible refine s_min ?_) | (with_reducible refine s_gcd ?_)
  | (with_reducible refine s_chain ?_) | (with_reducible refine s_sl ?_) | (with_reducible refine s_noP ?_) | (with_reducible refine s_part ?_) | (with_reducible refine s_exI ?_) 
  | ((with_reducible refine' s_mulI ?hc ?_); (case hc => first | exact Or.inl (Or.inr ⟨by decide, by decide⟩) | exact Or.inl (Or.inl ⟨by decide, by decide⟩) | exact Or.inl (Or.inl ⟨by omega, by omega⟩) | exact Or.inl (Or.inr ⟨by omega, by omega⟩) | walk_at "umul"))
  | ((with_reducible refine' s_ixT ?hc ?hd ?_); (case hc => assumption); (case hd => rfl))
  | ((with_reducible refine' s_lenL ?hc ?_); (case hc => first | assumption | exact SqL.of (by assumption))) | ((with_reducible refine' s_lenT ?hc ?_); (case hc => first | assumption | exact SqT.of (by assumption)))
  | ((with_reducible refine' s_divP ?hc ?hd ?_); (case hc => first | decide | assumption | omega); (case hd => first | decide +kernel | assumption)))
local macro_rules | `(tactic| walk_at "uz1") => `(tactic| first
  | walk_at "uz2" | ((with_reducible refine' s_ixL ?hc ?hd ?_); (case hc => first | assumption | exact SqL.of (by assumption)); (case hd => rfl)) | ((with_reducible refine' s_ixT ?hc ?hd ?_); (case hc => exact SqT.of (by assumption)); (case hd => rfl))
  | ((with_reducible refine' s_intS ?hc ?hd ?_); (case hc => assumption); (case hd => assumption)) | ((with_reducible refine' s_lenS ?hc ?_); (case hc => assumption)))
local macro_rules | `(tactic| walk_at "uz") => `(tactic| ((repeat walk_at "uz1"); repeat ((first | (refine s_iF ?_) | (refine s_iT ?_)); (repeat walk_at "uz1"))))
section
variable {P : Program} {w : World} {K : PySem.W.Frag} {mg : Str → Option Value} {base : Heap}
variable {cE cH cU cW : Addr}
theorem ok_l_written (T : Tp P K mg cE cH cU cW)
    {f : Addr} {fd : FuncData} {dvs : List V} (F : FunD K "_law_written" "_law_written" (defArgs s_l_written) (defBody s_l_written) (defScope s_l_written) dvs [] f fd) : FnG P w K mg base 1 f fd P_l_written (spLWrite K) := by
  refine fng F sc_l_written (by walk_at "ulen") (fun cdv A outer s H vs Q E hr0 hg0 h => ?_)
  have hr : Rm 0 (A.deeper (envOfC "_law_written" (defScope s_l_written) s.heap.objs.size f cdv)) := ⟨hr0, hg0⟩
  have nd : N_l_written.Nodup := sc_l_written.nd
  have po : PassesOwn (model P w) (cxOf (L2.CX P w) P w K mg base N_l_written "_law_written" (defScope s_l_written) f cdv A outer s H E).A (cxOf (L2.CX P w) P w K mg base N_l_written "_law_written" (defScope s_l_written) f cdv A outer s H E).env (cxOf (L2.CX P w) P w K mg base N_l_written "_law_written" (defScope s_l_written) f cdv A outer s H E).xe := passes_of rfl
  obtain ⟨p, q, ns, xs, rfl, hp, hq, hl, h20, h12, hin, k⟩ := h
  refine ⟨_, (pss_cons (ps_set (i := 2) nd rfl (Or.inl rfl) (pe_lst pa_nil))
    (pss_cons (ps_set (i := 3) nd rfl (Or.inl rfl) pe_str)
    (pss_cons (ps_for po rfl (pi_range1 (by rfl) T.range (pa_cons (pe_callB call_uLen (by rfl) T.len b_len (pa_cons (pv 0) pa_nil)) pa_nil)) (pg_name (i := 4) nd rfl (Or.inl rfl))
    (pss_consJ (ps_if (pt_cmpR op_gt (pe_ix ix_seq (pv 1) (pv 4) (fun _ _ => rfl)) pe_int (nomark _)) (pss_one (ps_expr (pe_bm PySem.F.plainAttrs_list PySem.F.slot_list_append PySem.F.type_list_append mt_append (pv 2) (pa_cons (pe_op op_uAdd (pe_ix ix_seq (pv 0) (pv 4) (fun _ _ => rfl)) (pe_ifExp (pt_cmpR op_gt (pe_ix ix_seq (pv 1) (pv 4) (fun _ _ => rfl)) pe_int (nomark _)) (pe_op op_uAdd pe_str (pe_callTy call_uStr (by rfl) T.str b_str (pa_cons (pe_ix ix_seq (pv 1) (pv 4) (fun _ _ => rfl)) pa_nil))) pe_str)) pa_nil)))) pss_nil)
    (pss_one (ps_if (pt_cmpR op_lt (pe_ix ix_seq (pv 1) (pv 4) (fun _ _ => rfl)) pe_int (nomark _)) (pss_one (ps_set (i := 3) nd rfl (Or.inl rfl) (pe_op op_uAdd (pe_op op_uAdd (pe_op op_uAdd (pv 3) pe_str) (pe_ix ix_seq (pv 0) (pv 4) (fun _ _ => rfl))) (pe_ifExp (pt_cmpR op_lt (pe_ix ix_seq (pv 1) (pv 4) (fun _ _ => rfl)) (pe_un un_neg pe_int) (nomark _)) (pe_op op_uAdd pe_str (pe_callTy call_uStr (by rfl) T.str b_str (pa_cons (pe_op op_sub pe_int (pe_ix ix_seq (pv 1) (pv 4) (fun _ _ => rfl))) pa_nil))) pe_str)))) pss_nil))))
    (pss_cons (ps_if (pt_cmpR (op_uEq hr.r.units) (pv 2) (pe_lst pa_nil) (nomark _)) (pss_one (ps_ret (pe_op op_uAdd pe_str (pv 3)))) pss_nil)
    (pss_one (ps_ret (pe_op op_uAdd (pe_join pe_str (pv 2)) (pv 3)))))))), ?_⟩
  walk_at "uk"
  walk_at "uy"
  refine s_szN (Nat.le_of_ble_eq_true rfl) fun ab nab => ?_
  have e0 := exN (o := .lst []) nab
  have f0 : upd H ab (.lst []) ab = some (.lst []) := upd_same
  have hp0 := Ex.sl hp e0
  generalize upd H ab (.lst []) = H0 at e0 f0 hp0
  walk_at "uy"
  refine ⟨_, rfl, by rw [List.length_map]; omega, by rw [List.length_map]; omega, ?_⟩
  refine loopR (n := ((ns.map V.str).length : Int).toNat) (fun i σ' H' => Ex H H' ∧ H' ab = some (.lst ((aboveL ((ns.zip xs).take i)).map V.str)) ∧ (belowL ((ns.zip xs).take i)).length ≤ 20 * i ∧ (aboveL ((ns.zip xs).take i)).length ≤ i ∧ (∀ y ∈ aboveL ((ns.zip xs).take i), y.length ≤ 20 ∧ PyData.strOk y = true) ∧ ∃ o4, σ' = ((((L2.start N_l_written [.ref p, .ref q]).set 2 (some (.ref ab))).set 3 (some (.str (belowL ((ns.zip xs).take i))))).set 4 o4)) ?_ ?_ ?_
  · exact ⟨e0, f0, Nat.zero_le _, Nat.zero_le _, (fun y h => by cases h), none, rfl⟩
  · rintro σ' H' ⟨e, ha, hb, hal, hc, o4, rfl⟩
    have zt : (ns.zip xs).take ((ns.map V.str).length : Int).toNat = ns.zip xs := List.take_of_length_le (by rw [List.length_zip, List.length_map]; omega)
    have nl : ((ns.map V.str).length : Int).toNat = ns.length := by rw [List.length_map]; omega
    rw [zt] at ha hb hal hc
    rw [zt]
    rw [nl] at hb hal
    unfold writV at k
    generalize belowL (ns.zip xs) = bl at hb k
    generalize aboveL (ns.zip xs) = av at ha hal hc k
    walk_at "uy"
    refine s_szN (Nat.le_of_ble_eq_true rfl) fun em nem => ?_
    have e2 := exN (o := .lst []) nem
    have f2 : upd H' em (.lst []) em = some (.lst []) := upd_same
    have ha2 := e2 _ _ ha
    have ka := k _ (e.tr e2)
    generalize upd H' em (.lst []) = H3 at e2 f2 ha2 ka
    have so : PyData.canLayAll0 (av.map PyData.str) = true := canLay_strs av fun y hy => (hc y hy).2
    have sh : SeqAt.shaped (.list (av.map PyData.str)) = true := by rw [SeqAt.shaped, PyData.canLay0, so, PyData.depth, depth_strs]; rfl
    refine eq_data (lstS_dp (.of ha2)) (.lst (.of f2) .nil) sh rfl ?_
    have eq0 : PyData.eqv (.list (av.map PyData.str)) (.list []) = decide (av = []) := by
      rw [PyData.eqv]
      cases av with
      | nil => rfl
      | cons a r => rfl
    rw [eq0]
    walk_at "uy"
    refine s_ite (fun h0 => ?_) (fun h0 => ?_)
    · rw [if_pos h0] at ka
      walk_at "uy"
      refine s_addS (by show 1 + _ ≤ 16777216; omega) ?_
      exact ka
    · rw [if_neg h0] at ka
      walk_at "uy"
      have sl := sum_le 20 av fun y hy => (hc y hy).1
      have o1 : (("*" : Str)).length = 1 := rfl
      have jl := join_len "*" av
      rw [o1] at jl
      refine ⟨"*", ab, av, rfl, rfl, .inl (.of ha2), by rw [o1]; omega, ?_⟩
      walk_at "uy"
      refine s_addS (by show _ ≤ 16777216; omega) ?_
      exact ka
  · rintro i σ' H' hi ⟨e, ha, hb, hal, hc, o4, rfl⟩
    have hi' : i < ns.length := by rw [List.length_map] at hi; omega
    obtain ⟨n, hn⟩ : ∃ n, ns[i]? = some n := ⟨_, List.getElem?_eq_getElem hi'⟩
    obtain ⟨pw, hpw⟩ : ∃ n, xs[i]? = some n := ⟨_, List.getElem?_eq_getElem (by omega)⟩
    have an : atI (ns.map V.str) (0 + (i : Int)) = some (.str n) := by rw [Int.zero_add]; exact atI_nat (by rw [List.getElem?_map, hn]; rfl)
    have ap : atI (xs.map V.int) (0 + (i : Int)) = some (.int pw) := by rw [Int.zero_add]; exact atI_nat (by rw [List.getElem?_map, hpw]; rfl)
    have hr9 := inR_of hin hpw
    have ln := h12 n (List.mem_of_getElem? hn)
    have ln1 := ln.1
    rw [zip_add hn hpw, above_add, below_add]
    have hp' := Ex.sl hp e
    have hq' := Ex.st hq e
    generalize belowL ((ns.zip xs).take i) = bl at hb
    generalize aboveL ((ns.zip xs).take i) = av at ha hc hal
    walk_at "uj"
    have oc : (("^" : Str)).length = 1 := rfl
    have os : (("/" : Str)).length = 1 := rfl
    refine s_seqJ (fun σ' H'' => Ex H H'' ∧ H'' ab = some (.lst ((if 0 < pw then av ++ [segA n pw] else av).map V.str)) ∧ σ' = ((((L2.start N_l_written [.ref p, .ref q]).set 2 (some (.ref ab))).set 3 (some (.str bl))).set 4 (some (.int (0 + i))))) ?_ (fun R hR => ?_)
    · rintro σ' H2 ⟨e2, ha2, rfl⟩
      have lA : (if 0 < pw then av ++ [segA n pw] else av).length ≤ i + 1 := by
        split
        · rw [List.length_append]; exact Nat.succ_le_succ hal
        · omega
      have cA : ∀ y ∈ (if 0 < pw then av ++ [segA n pw] else av), y.length ≤ 20 ∧ PyData.strOk y = true := by
        intro y hy
        by_cases p0 : 0 < pw
        · rw [if_pos p0] at hy
          rcases List.mem_append.mp hy with hy | hy
          · exact hc y hy
          · rw [List.mem_singleton.mp hy]
            exact segA_ok ln.1 ln.2 p0 hr9.2
        · rw [if_neg p0] at hy
          exact hc y hy
      have hp2 := Ex.sl hp e2
      have hq2 := Ex.st hq e2
      walk_at "ux"
      refine s_ixT hq2 ap ?_
      walk_at "uy"
      refine s_ite (fun p0 => ?_) (fun p0 => ?_)
      · walk_at "ux"
        refine s_addS (by rw [os]; show _ ≤ 16777216; omega) ?_
        walk_at "ux"
        refine s_ixL hp2 an ?_
        refine s_addS (by rw [app_len, os]; show _ ≤ 16777216; omega) ?_
        walk_at "ux"
        refine s_ixT hq2 ap ?_
        walk_at "ux"
        refine s_ite (fun p1 => ?_) (fun p1 => ?_)
        · walk_at "ux"
          refine s_ixT hq2 ap ?_
          walk_at "ux"
          obtain ⟨tl1, tl2⟩ := tos_len (p := 0 - pw) (by omega) (by omega)
          refine s_strI tl1 ?_
          refine s_addS (by rw [oc, tl2]; decide) ?_
          refine s_addS (by rw [app_len, app_len, app_len, oc, os, tl2]; show _ ≤ 16777216; omega) ?_
          walk_at "ux"
          have ey : bl ++ ("/" : Str) ++ n ++ (("^" : Str) ++ Str.ofString (toString (0 - pw))) = bl ++ segB n pw := by unfold segB dnT; rw [if_pos (by omega), Int.zero_sub]; simp only [str_assoc]
          rw [ey]
          refine ⟨e2, ha2, ?_, lA, cA, _, by rw [if_pos p0]; rfl⟩
          rw [if_pos p0, ← ey, app_len, app_len, app_len, app_len, oc, os, tl2]
          omega
        · walk_at "ux"
          refine s_addS (by rw [app_len, app_len, os]; show _ + 0 ≤ 16777216; omega) ?_
          walk_at "ux"
          have ey : bl ++ ("/" : Str) ++ n ++ "" = bl ++ segB n pw := by unfold segB dnT; rw [if_neg (by omega), str_emp, str_emp, str_assoc]
          rw [ey]
          refine ⟨e2, ha2, ?_, lA, cA, _, by rw [if_pos p0]; rfl⟩
          rw [if_pos p0, ← ey, str_emp, app_len, app_len, os]
          omega
      · walk_at "uy"
        exact ⟨e2, ha2, by rw [if_neg p0]; omega, lA, cA, _, by rw [if_neg p0]⟩
    · walk_at "ux"
      refine s_ixT hq' ap ?_
      walk_at "ux"
      refine s_ite (fun p0 => ?_) (fun p0 => ?_)
      · walk_at "ux"
        refine s_tyL (.of ha) ?_
        walk_at "ux"
        refine s_ixL hp' an ?_
        walk_at "ux"
        refine s_ixT hq' ap ?_
        walk_at "ux"
        refine s_ite (fun p1 => ?_) (fun p1 => ?_)
        · walk_at "ux"
          refine s_ixT hq' ap ?_
          walk_at "ux"
          obtain ⟨tl1, tl2⟩ := tos_len (p := pw) (by omega) (by omega)
          refine s_strI tl1 ?_
          refine s_addS (by rw [oc, tl2]; decide) ?_
          refine s_addS (by rw [app_len, oc, tl2]; show _ ≤ 16777216; omega) ?_
          walk_at "ux"
          refine s_app ha (by rw [List.length_map]; show _ < 16777216; omega) ?_
          exact hR _ _ ⟨ex_put nab e, by rw [if_pos p0, List.map_append]; rw [show segA n pw = n ++ (("^" : Str) ++ Str.ofString (toString pw)) by unfold segA upT; rw [if_pos p1]]; exact upd_same, rfl⟩
        · walk_at "ux"
          refine s_addS (by show _ + 0 ≤ 16777216; omega) ?_
          walk_at "ux"
          refine s_app ha (by rw [List.length_map]; show _ < 16777216; omega) ?_
          exact hR _ _ ⟨ex_put nab e, by rw [if_pos p0, List.map_append]; rw [show segA n pw = n ++ "" by unfold segA upT; rw [if_neg p1]]; exact upd_same, rfl⟩
      · walk_at "uy"
        exact hR _ _ ⟨e, by rw [if_neg p0]; exact ha, rfl⟩
end
end Lw

set_option Elab.async false
set_option linter.all false
set_option maxRecDepth 100000
set_option maxHeartbeats 4000000
namespace Lw
open PySem PySem.Spec L2 Uv
open PyProof.Rows hiding St
local macro_rules | `(tactic| walk_at "umul") => `(tactic| fail)
local macro_rules | `(tactic| walk_at "us1") => `(tactic| first
  | (with_reducible refine s_seq ?_) | (with_reducible refine s_asg ?_) | (with_reducible refine s_gn ?_) | (with_reducible refine s_ret ?_) | (with_reducible refine s_drop ?_) | (with_reducible refine s_if ?_) | (with_reducible refine s_next ?_)
  | (with_reducible refine s_brk ?_) | (with_reducible refine s_cont ?_)
  | ((with_reducible refine' s_var ?hv ?_); (case hv => exact rfl)) | (with_reducible refine s_c ?_) | (with_reducible refine s_op ?_) | (with_reducible refine s_un ?_) | (with_reducible refine s_cb ?_) | (with_reducible refine s_call ?_)
  | (with_reducible refine s_cons ?_) | (with_reducible refine s_nil ?_) | (with_reducible refine s_test ?_) | (with_reducible refine s_tB ?_) | (with_reducible refine s_not ?_) | (with_reducible refine s_and ?_) | (with_reducible refine s_or ?_)
  | (with_reducible refine s_andV ?_) | (with_reducible refine s_orV ?_) | (with_reducible refine s_notV ?_) | (with_reducible refine s_ifE ?_) | (with_reducible refine s_bl ?_) | (with_reducible refine s_iT ?_) | (with_reducible refine s_iF ?_)
  | (with_reducible refine s_I0 ?_) | (with_reducible refine s_U ?_) | (with_reducible refine s_addI ?_) | (with_reducible refine s_eqI ?_) | (with_reducible refine s_eqS ?_) | (with_reducible refine s_eqB ?_) | (with_reducible refine s_neI ?_) | (with_reducible refine s_neS ?_) | (with_reducible refine s_neB ?_)
  | (with_reducible refine s_tupE ?_) | (with_reducible refine s_lstE ?_))
local macro_rules | `(tactic| walk_at "us") => `(tactic| repeat walk_at "us1")
local macro_rules | `(tactic| walk_at "ulen") => `(tactic| (intro vs H Q E h; repeat' (first | (obtain ⟨e, _⟩ := h; subst e; rfl) | (subst h; rfl) | (refine Or.elim h (fun h => ?_) (fun h => ?_)) | (obtain ⟨_, h⟩ := h))))
local macro_rules | `(tactic| walk_at "uk") => `(tactic| (try dsimp only [cxOf, Cx.suite, Cx.tr]))
local macro_rules | `(tactic| walk_at "us2") => `(tactic| first
  | walk_at "us1" | (with_reducible refine s_dput ?_) | ((with_reducible refine' s_mod ?hc ?_); (case hc => first | decide | assumption | omega))
  | (with_reducible refine s_for ?_) | (with_reducible refine s_lc ?_) | (with_reducible refine s_bm ?_) | (with_reducible refine s_ilt ?_) | (with_reducible refine s_izx ?_) | (with_reducible refine s_ienum ?_) | (with_reducible refine s_din ?_) | (with_reducible refine s_dnotin ?_) | (with_reducible refine s_itl ?_) | (with_reducible refine s_itt ?_) | (with_reducible refine s_its ?_) | (with_reducible refine s_itr ?_) | (with_reducible refine s_itr2 ?_) | (with_reducible refine s_disp ?_) | (with_reducible refine s_prn ?_) | (with_reducible refine s_prc ?_) | (with_reducible refine s_m1 ?_) | (with_reducible refine s_isS ?_) | (with_reducible refine s_um1 ?_) | (with_reducible refine s_isB ?_) | (with_reducible refine s_isn ?_) | (with_reducible refine s_notn ?_) | (with_reducible refine s_jd ?_) | (with_reducible refine s_jn ?_) | (with_reducible refine s_jc ?_) | (with_reducible refine s_fmt ?_) | (with_reducible refine s_gc ?_) | (with_reducible refine s_gnil ?_) | (with_reducible refine s_yes ?_) | (with_reducible refine s_raise ?_)
  | ((with_reducible refine' s_pow ?hc ?_); (case hc => exact ⟨by decide, by decide, by decide⟩)) | (with_reducible refine s_int ?_) | (with_reducible refine s_intB ?_) | (with_reducible refine s_strS ?_) | (with_reducible refine s_abs ?_) | (with_reducible refine s_max ?_) | (with_reducible refine s_min ?_) | (with_reducible refine s_gcd ?_)
  | (with_reducible refine s_chain ?_) | (with_reducible refine s_sl ?_) | (with_reducible refine s_noP ?_) | (with_reducible refine s_part ?_) | (with_reducible refine s_exI ?_) 
  | ((with_reducible refine' s_mulI ?hc ?_); (case hc => first | exact Or.inl (Or.inr ⟨by decide, by decide⟩) | exact Or.inl (Or.inl ⟨by decide, by decide⟩) | exact Or.inl (Or.inl ⟨by omega, by omega⟩) | exact Or.inl (Or.inr ⟨by omega, by omega⟩) | walk_at "umul"))
  | ((with_reducible refine' s_ixT ?hc ?hd ?_); (case hc => assumption); (case hd => rfl))
  | ((with_reducible refine' s_lenL ?hc ?_); (case hc => first | assumption | exact SqL.of (by assumption))) | ((with_reducible refine' s_lenT ?hc ?_); (case hc => first | assumption | exact SqT.of (by assumption)))
  | ((with_reducible refine' s_divP ?hc ?hd ?_); (case hc => first | decide | assumption | omega); (case hd => first | decide +kernel | assumption)))
local macro_rules | `(tactic| walk_at "us") => `(tactic| repeat walk_at "us2")
local macro_rules | `(tactic| walk_at "uj") => `(tactic| ((walk_at "us"); with_reducible refine s_J ?_))
local macro_rules | `(tactic| walk_at "ua") => `(tactic| ((walk_at "us"); repeat ((first | (refine s_iF ?_) | (refine s_iT ?_)); (walk_at "us"))))
local macro_rules | `(tactic| walk_at "ub") => `(tactic| walk_at "ua")
local macro_rules | `(tactic| walk_at "ux1") => `(tactic| first
  | walk_at "us2" | ((with_reducible refine' s_ixL ?hc ?hd ?_); (case hc => first | assumption | exact SqL.of (by assumption)); (case hd => rfl)) | ((with_reducible refine' s_ixT ?hc ?hd ?_); (case hc => exact SqT.of (by assumption)); (case hd => rfl))
  | ((with_reducible refine' s_intS ?hc ?hd ?_); (case hc => assumption); (case hd => assumption)) | ((with_reducible refine' s_lenS ?hc ?_); (case hc => assumption)))
local macro_rules | `(tactic| walk_at "ux") => `(tactic| repeat walk_at "ux1")
local macro_rules | `(tactic| walk_at "uy") => `(tactic| ((walk_at "ux"); repeat ((first | (refine s_iF ?_) | (refine s_iT ?_)); (walk_at "ux"))))
local macro_rules | `(tactic| walk_at "uz0") => `(tactic| first
  | (with_reducible refine s_seq ?_) | (with_reducible refine s_asg ?_) | (with_reducible refine s_gn ?_) | (with_reducible refine s_ret ?_) | (with_reducible refine s_drop ?_) | (with_reducible refine s_if ?_) | (with_reducible refine s_next ?_)
  | (with_reducible refine s_brk ?_) | (with_reducible refine s_cont ?_)
  | ((with_reducible refine' s_var ?hv ?_); (case hv => exact rfl)) | (with_reducible refine s_c ?_) | (with_reducible refine s_op ?_) | (with_reducible refine s_un ?_) | (with_reducible refine s_cb ?_) | (with_reducible refine s_call ?_)
  | (with_reducible refine s_cons ?_) | (with_reducible refine s_nil ?_) | (with_reducible refine s_test ?_) | (with_reducible refine s_tB ?_) | (with_reducible refine s_not ?_) | (with_reducible refine s_and ?_) | (with_reducible refine s_or ?_)
  | (with_reducible refine s_andV ?_) | (with_reducible refine s_orV ?_) | (with_reducible refine s_notV ?_) | (with_reducible refine s_ifE ?_) | (with_reducible refine s_bl ?_) | (with_reducible refine s_iT ?_) | (with_reducible refine s_iF ?_)
  | (with_reducible refine s_I0 ?_) | (with_reducible refine s_U ?_) | (with_reducible refine s_addI ?_) | (with_reducible refine s_eqI ?_) | (with_reducible refine s_eqS ?_) | (with_reducible refine s_eqB ?_) | (with_reducible refine s_neI ?_) | (with_reducible refine s_neS ?_) | (with_reducible refine s_neB ?_))
local macro_rules | `(tactic| walk_at "uz2") => `(tactic| first
  | walk_at "uz0" | (with_reducible refine s_dput ?_) | ((with_reducible refine' s_mod ?hc ?_); (case hc => first | decide | assumption | omega))
  | (with_reducible refine s_for ?_) | (with_reducible refine s_lc ?_) | (with_reducible refine s_bm ?_) | (with_reducible refine s_ilt ?_) | (with_reducible refine s_izx ?_) | (with_reducible refine s_ienum ?_) | (with_reducible refine s_din ?_) | (with_reducible refine s_dnotin ?_) | (with_reducible refine s_itl ?_) | (with_reducible refine s_itt ?_) | (with_reducible refine s_its ?_) | (with_reducible refine s_itr ?_) | (with_reducible refine s_itr2 ?_) | (with_reducible refine s_disp ?_) | (with_reducible refine s_prn ?_) | (with_reducible refine s_prc ?_) | (with_reducible refine s_m1 ?_) | (with_reducible refine s_isS ?_) | (with_reducible refine s_um1 ?_) | (with_reducible refine s_isB ?_) | (with_reducible refine s_isn ?_) | (with_reducible refine s_notn ?_) | (with_reducible refine s_jd ?_) | (with_reducible refine s_jn ?_) | (with_reducible refine s_jc ?_) | (with_reducible refine s_fmt ?_) | (with_reducible refine s_gc ?_) | (with_reducible refine s_gnil ?_) | (with_reducible refine s_yes ?_) | (with_reducible refine s_raise ?_)
  | ((with_reducible refine' s_pow ?hc ?_); (case hc => exact ⟨by decide, by decide, by decide⟩)) | (with_reducible refine s_int ?_) | (with_reducible refine s_intB ?_) | (with_reducible refine s_strS ?_) | (with_reducible refine s_abs ?_) | (with_reducible refine s_max ?_) | (with_reducible refine s_min ?_) | (with_reducible refine s_gcd ?_)
  | (with_reducible refine s_chain ?_) | (with_reducible refine s_sl ?_) | (with_reducible refine s_noP ?_) | (with_reducible refine s_part ?_) | (with_reducible refine s_exI ?_) 
  | ((with_reducible refine' s_mulI ?hc ?_); (case hc => first | exact Or.inl (Or.inr ⟨by decide, by decide⟩) | exact Or.inl (Or.inl ⟨by decide, by decide⟩) | exact Or.inl (Or.inl ⟨by omega, by omega⟩) | exact Or.inl (Or.inr ⟨by omega, by omega⟩) | walk_at "umul"))
  | ((with_reducible refine' s_ixT ?hc ?hd ?_); (case hc => assumption); (case hd => rfl))
  | ((with_reducible refine' s_lenL ?hc ?_); (case hc => first | assumption | exact SqL.of (by assumption))) | ((with_reducible refine' s_lenT ?hc ?_); (case hc => first | assumption | exact SqT.of (by assumption)))
  | ((with_reducible refine' s_divP ?hc ?hd ?_); (case hc => first | decide | assumption | omega); (case hd => first | decide +kernel | assumption)))
local macro_rules | `(tactic| walk_at "uz1") => `(tactic| first
  | walk_at "uz2" | ((with_reducible refine' s_ixL ?hc ?hd ?_); (case hc => first | assumption | exact SqL.of (by assumption)); (case hd => rfl)) | ((with_reducible refine' s_ixT ?hc ?hd ?_); (case hc => exact SqT.of (by assumption)); (case hd => rfl))
  | ((with_reducible refine' s_intS ?hc ?hd ?_); (case hc => assumption); (case hd => assumption)) | ((with_reducible refine' s_lenS ?hc ?_); (case hc => assumption)))
local macro_rules | `(tactic| walk_at "uz") => `(tactic| ((repeat walk_at "uz1"); repeat ((first | (refine s_iF ?_) | (refine s_iT ?_)); (repeat walk_at "uz1"))))
section
variable {P : Program} {w : World} {K : PySem.W.Frag} {mg : Str → Option Value} {base : Heap}
variable {cE cH cU cW : Addr}
theorem ok_l_same (T : Tp P K mg cE cH cU cW)
    (c_l_integer : Cal P w K mg base 1 "_law_integer" P_l_integer [] (spInteger K))
    {f : Addr} {fd : FuncData} {dvs : List V} (F : FunD K "_law_same" "_law_same" (defArgs s_l_same) (defBody s_l_same) (defScope s_l_same) dvs [] f fd) : FnG P w K mg base 2 f fd P_l_same (spSame K) := by
  refine fng F sc_l_same (by walk_at "ulen") (fun cdv A outer s H vs Q E hr0 hg0 h => ?_)
  have hr : Rm 1 (A.deeper (envOfC "_law_same" (defScope s_l_same) s.heap.objs.size f cdv)) := ⟨hr0, hg0⟩
  have nd : N_l_same.Nodup := sc_l_same.nd
  have po : PassesOwn (model P w) (cxOf (L2.CX P w) P w K mg base N_l_same "_law_same" (defScope s_l_same) f cdv A outer s H E).A (cxOf (L2.CX P w) P w K mg base N_l_same "_law_same" (defScope s_l_same) f cdv A outer s H E).env (cxOf (L2.CX P w) P w K mg base N_l_same "_law_same" (defScope s_l_same) f cdv A outer s H E).xe := passes_of rfl
  obtain ⟨v, w, o, rfl, hv, hw, k⟩ := h
  refine ⟨_, (pss_cons (ps_if (pt_cmpR op_uIsN (pv 1) pe_non (nomark _)) (pss_one (ps_ret (pe_cmpR op_uIsN (pv 0) pe_non (nomark _)))) pss_nil)
    (pss_cons (ps_if (PW.pt (pw_or (pt_not (pt_val (pe_callB call_isi (by rfl) T.isinstance b_isinstance (pa_cons (pv 0) (pa_cons (pe_bltn (v := .ty "tuple") (by rfl) T.tuple b_tuple rfl) pa_nil))))) (pw_or1 (pt_cmpR (op_uNe hr.r.units) (pe_callB call_uLen (by rfl) T.len b_len (pa_cons (pv 0) pa_nil)) (pe_callB call_uLen (by rfl) T.len b_len (pa_cons (pv 1) pa_nil)) (nomark _))))) (pss_one (ps_ret pe_bl)) pss_nil)
    (pss_cons (ps_for po rfl (pi_tup (pv 0)) (pg_name (i := 2) nd rfl (Or.inl rfl))
    (pss_one (ps_if (pt_not (pt_val (pe_c (E := En) c_l_integer (hr.mono (by decide)) paN (pa_cons (pv 2) pa_nil)))) (pss_one (ps_ret pe_bl)) pss_nil)))
    (pss_one (ps_ret (pe_cmpR (op_uEq hr.r.units) (pv 0) (pv 1) (nomark _))))))), ?_⟩
  walk_at "uk"
  walk_at "uy"
  rcases hv with ⟨rfl, rfl⟩ | ⟨xs, rfl, q, rfl, hq⟩
  · rcases hw with ⟨_, rfl⟩ | ⟨ys, e, _⟩
    · walk_at "uy"
      exact k
    · cases e
  · rcases hw with ⟨e, rfl⟩ | ⟨ys, e, q2, rfl, hq2⟩
    · cases e
    cases e
    walk_at "uy"
    refine s_isTup (tupI_dp hq) ?_
    walk_at "uy"
    rw [decide_eq_true rfl]
    walk_at "uy"
    refine loopT (xs := xs.map V.int) (fun i σ' H' => H = H' ∧ ∃ o, σ' = (L2.start N_l_same [.ref q, .ref q2]).set 2 o) ⟨rfl, none, rfl⟩ (fun i σ' H' h => by rw [← h.1]; exact hq) ?_ ?_
    · rintro σ' H' ⟨rfl, o, rfl⟩
      walk_at "uy"
      refine eq_data (tupI_dp hq) (tupI_dp hq2) (shaped_ints xs) (shaped_ints xs) ?_
      rw [eqv_ints, decide_eq_true rfl]
      exact k
    · rintro i x σ' H' hx ⟨rfl, o, rfl⟩
      obtain ⟨j, rfl⟩ : ∃ j, x = .int j := by
        obtain ⟨j, _, e⟩ := List.mem_map.mp (List.mem_of_getElem? hx)
        exact ⟨j, e.symm⟩
      walk_at "uy"
      refine ⟨_, .int j, rfl, .int j, ?_⟩
      walk_at "uy"
      exact ⟨rfl, _, rfl⟩
end
end Lw

set_option Elab.async false
set_option linter.all false
set_option maxRecDepth 100000
set_option maxHeartbeats 4000000
namespace Lw
open PySem PySem.Spec L2 Uv
open PyProof.Rows hiding St
local macro_rules | `(tactic| walk_at "umul") => `(tactic| fail)
local macro_rules | `(tactic| walk_at "us1") => `(tactic| first
  | (with_reducible refine s_seq ?_) | (with_reducible refine s_asg ?_) | (with_reducible refine s_gn ?_) | (with_reducible refine s_ret ?_) | (with_reducible refine s_drop ?_) | (with_reducible refine s_if ?_) | (with_reducible refine s_next ?_)
  | (with_reducible refine s_brk ?_) | (with_reducible refine s_cont ?_)
  | ((with_reducible refine' s_var ?hv ?_); (case hv => exact rfl)) | (with_reducible refine s_c ?_) | (with_reducible refine s_op ?_) | (with_reducible refine s_un ?_) | (with_reducible refine s_cb ?_) | (with_reducible refine s_call ?_)
  | (with_reducible refine s_cons ?_) | (with_reducible refine s_nil ?_) | (with_reducible refine s_test ?_) | (with_reducible refine s_tB ?_) | (with_reducible refine s_not ?_) | (with_reducible refine s_and ?_) | (with_reducible refine s_or ?_)
  | (with_reducible refine s_andV ?_) | (with_reducible refine s_orV ?_) | (with_reducible refine s_notV ?_) | (with_reducible refine s_ifE ?_) | (with_reducible refine s_bl ?_) | (with_reducible refine s_iT ?_) | (with_reducible refine s_iF ?_)
  | (with_reducible refine s_I0 ?_) | (with_reducible refine s_U ?_) | (with_reducible refine s_addI ?_) | (with_reducible refine s_eqI ?_) | (with_reducible refine s_eqS ?_) | (with_reducible refine s_eqB ?_) | (with_reducible refine s_neI ?_) | (with_reducible refine s_neS ?_) | (with_reducible refine s_neB ?_)
  | (with_reducible refine s_tupE ?_) | (with_reducible refine s_lstE ?_))
local macro_rules | `(tactic| walk_at "us") => `(tactic| repeat walk_at "us1")
local macro_rules | `(tactic| walk_at "ulen") => `(tactic| (intro vs H Q E h; repeat' (first | (obtain ⟨e, _⟩ := h; subst e; rfl) | (subst h; rfl) | (refine Or.elim h (fun h => ?_) (fun h => ?_)) | (obtain ⟨_, h⟩ := h))))
local macro_rules | `(tactic| walk_at "uk") => `(tactic| (try dsimp only [cxOf, Cx.suite, Cx.tr]))
local macro_rules | `(tactic| walk_at "us2") => `(tactic| first
  | walk_at "us1" | (with_reducible refine s_dput ?_) | ((with_reducible refine' s_mod ?hc ?_); (case hc => first | decide | assumption | omega))
  | (with_reducible refine s_for ?_) | (with_reducible refine s_lc ?_) | (with_reducible refine s_bm ?_) | (with_reducible refine s_ilt ?_) | (with_reducible refine s_izx ?_) | (with_reducible refine s_ienum ?_) | (with_reducible refine s_din ?_) | (with_reducible refine s_dnotin ?_) | (with_reducible refine s_itl ?_) | (with_reducible refine s_itt ?_) | (with_reducible refine s_its ?_) | (with_reducible refine s_itr ?_) | (with_reducible refine s_itr2 ?_) | (with_reducible refine s_disp ?_) | (with_reducible refine s_prn ?_) | (with_reducible refine s_prc ?_) | (with_reducible refine s_m1 ?_) | (with_reducible refine s_isS ?_) | (with_reducible refine s_um1 ?_) | (with_reducible refine s_isB ?_) | (with_reducible refine s_isn ?_) | (with_reducible refine s_notn ?_) | (with_reducible refine s_jd ?_) | (with_reducible refine s_jn ?_) | (with_reducible refine s_jc ?_) | (with_reducible refine s_fmt ?_) | (with_reducible refine s_gc ?_) | (with_reducible refine s_gnil ?_) | (with_reducible refine s_yes ?_) | (with_reducible refine s_raise ?_)
  | ((with_reducible refine' s_pow ?hc ?_); (case hc => exact ⟨by decide, by decide, by decide⟩)) | (with_reducible refine s_int ?_) | (with_reducible refine s_intB ?_) | (with_reducible refine s_strS ?_) | (with_reducible refine s_abs ?_) | (with_reducible refine s_max ?_) | (with_reducible refine s_min ?_) | (with_reducible refine s_gcd ?_)
  | (with_reducible refine s_chain ?_) | (with_reducible refine s_sl ?_) | (with_reducible refine s_noP ?_) | (with_reducible refine s_part ?_) | (with_reducible refine s_exI ?_) 
  | ((with_reducible refine' s_mulI ?hc ?_); (case hc => first | exact Or.inl (Or.inr ⟨by decide, by decide⟩) | exact Or.inl (Or.inl ⟨by decide, by decide⟩) | exact Or.inl (Or.inl ⟨by omega, by omega⟩) | exact Or.inl (Or.inr ⟨by omega, by omega⟩) | walk_at "umul"))
  | ((with_reducible refine' s_ixT ?hc ?hd ?_); (case hc => assumption); (case hd => rfl))
  | ((with_reducible refine' s_lenL ?hc ?_); (case hc => first | assumption | exact SqL.of (by assumption))) | ((with_reducible refine' s_lenT ?hc ?_); (case hc => first | assumption | exact SqT.of (by assumption)))
  | ((with_reducible refine' s_divP ?hc ?hd ?_); (case hc => first | decide | assumption | omega); (case hd => first | decide +kernel | assumption)))
local macro_rules | `(tactic| walk_at "us") => `(tactic| repeat walk_at "us2")
local macro_rules | `(tactic| walk_at "uj") => `(tactic| ((walk_at "us"); with_reducible refine s_J ?_))
local macro_rules | `(tactic| walk_at "ua") => `(tactic| ((walk_at "us"); repeat ((first | (refine s_iF ?_) | (refine s_iT ?_)); (walk_at "us"))))
local macro_rules | `(tactic| walk_at "ub") => `(tactic| walk_at "ua")
local macro_rules | `(tactic| walk_at "ux1") => `(tactic| first
  | walk_at "us2" | ((with_reducible refine' s_ixL ?hc ?hd ?_); (case hc => first | assumption | exact SqL.of (by assumption)); (case hd => rfl)) | ((with_reducible refine' s_ixT ?hc ?hd ?_); (case hc => exact SqT.of (by assumption)); (case hd => rfl))
  | ((with_reducible refine' s_intS ?hc ?hd ?_); (case hc => assumption); (case hd => assumption)) | ((with_reducible refine' s_lenS ?hc ?_); (case hc => assumption)))
local macro_rules | `(tactic| walk_at "ux") => `(tactic| repeat walk_at "ux1")
local macro_rules | `(tactic| walk_at "uy") => `(tactic| ((walk_at "ux"); repeat ((first | (refine s_iF ?_) | (refine s_iT ?_)); (walk_at "ux"))))
local macro_rules | `(tactic| walk_at "uz0") => `(tactic| first
  | (with_reducible refine s_seq ?_) | (with_reducible refine s_asg ?_) | (with_reducible refine s_gn ?_) | (with_reducible refine s_ret ?_) | (with_reducible refine s_drop ?_) | (with_reducible refine s_if ?_) | (with_reducible refine s_next ?_)
  | (with_reducible refine s_brk ?_) | (with_reducible refine s_cont ?_)
  | ((with_reducible refine' s_var ?hv ?_); (case hv => exact rfl)) | (with_reducible refine s_c ?_) | (with_reducible refine s_op ?_) | (with_reducible refine s_un ?_) | (with_reducible refine s_cb ?_) | (with_reducible refine s_call ?_)
  | (with_reducible refine s_cons ?_) | (with_reducible refine s_nil ?_) | (with_reducible refine s_test ?_) | (with_reducible refine s_tB ?_) | (with_reducible refine s_not ?_) | (with_reducible refine s_and ?_) | (with_reducible refine s_or ?_)
  | (with_reducible refine s_andV ?_) | (with_reducible refine s_orV ?_) | (with_reducible refine s_notV ?_) | (with_reducible refine s_ifE ?_) | (with_reducible refine s_bl ?_) | (with_reducible refine s_iT ?_) | (with_reducible refine s_iF ?_)
  | (with_reducible refine s_I0 ?_) | (with_reducible refine s_U ?_) | (with_reducible refine s_addI ?_) | (with_reducible refine s_eqI ?_) | (with_reducible refine s_eqS ?_) | (with_reducible refine s_eqB ?_) | (with_reducible refine s_neI ?_) | (with_reducible refine s_neS ?_) | (with_reducible refine s_neB ?_))
local macro_rules | `(tactic| walk_at "uz2") => `(tactic| first
  | walk_at "uz0" | (with_reducible refine s_dput ?_) | ((with_reducible refine' s_mod ?hc ?_); (case hc => first | decide | assumption | omega))
  | (with_reducible refine s_for ?_) | (with_reducible refine s_lc ?_) | (with_reducible refine s_bm ?_) | (with_reducible refine s_ilt ?_) | (with_reducible refine s_izx ?_) | (with_reducible refine s_ienum ?_) | (with_reducible refine s_din ?_) | (with_reducible refine s_dnotin ?_) | (with_reducible refine s_itl ?_) | (with_reducible refine s_itt ?_) | (with_reducible refine s_its ?_) | (with_reducible refine s_itr ?_) | (with_reducible refine s_itr2 ?_) | (with_reducible refine s_disp ?_) | (with_reducible refine s_prn ?_) | (with_reducible refine s_prc ?_) | (with_reducible refine s_m1 ?_) | (with_reducible refine s_isS ?_) | (with_reducible refine s_um1 ?_) | (with_reducible refine s_isB ?_) | (with_reducible refine s_isn ?_) | (with_reducible refine s_notn ?_) | (with_reducible refine s_jd ?_) | (with_reducible refine s_jn ?_) | (with_reducible refine s_jc ?_) | (with_reducible refine s_fmt ?_) | (with_reducible refine s_gc ?_) | (with_reducible refine s_gnil ?_) | (with_reducible refine s_yes ?_) | (with_reducible refine s_raise ?_)
  | ((with_reducible refine' s_pow ?hc ?_); (case hc => exact ⟨by decide, by decide, by decide⟩)) | (with_reducible refine s_int ?_) | (with_reducible refine s_intB ?_) | (with_reducible refine s_strS ?_) | (with_reducible refine s_abs ?_) | (with_reducible refine s_max ?_) | (with_reducible refine s_min ?_) | (with_reducible refine s_gcd ?_)
  | (with_reducible refine s_chain ?_) | (with_reducible refine s_sl ?_) | (with_reducible refine s_noP ?_) | (with_reducible refine s_part ?_) | (with_reducible refine s_exI ?_) 
  | ((with_reducible refine' s_mulI ?hc ?_); (case hc => first | exact Or.inl (Or.inr ⟨by decide, by decide⟩) | exact Or.inl (Or.inl ⟨by decide, by decide⟩) | exact Or.inl (Or.inl ⟨by omega, by omega⟩) | exact Or.inl (Or.inr ⟨by omega, by omega⟩) | walk_at "umul"))
  | ((with_reducible refine' s_ixT ?hc ?hd ?_); (case hc => assumption); (case hd => rfl))
  | ((with_reducible refine' s_lenL ?hc ?_); (case hc => first | assumption | exact SqL.of (by assumption))) | ((with_reducible refine' s_lenT ?hc ?_); (case hc => first | assumption | exact SqT.of (by assumption)))
  | ((with_reducible refine' s_divP ?hc ?hd ?_); (case hc => first | decide | assumption | omega); (case hd => first | decide +kernel | assumption)))
local macro_rules | `(tactic| walk_at "uz1") => `(tactic| first
  | walk_at "uz2" | ((with_reducible refine' s_ixL ?hc ?hd ?_); (case hc => first | assumption | exact SqL.of (by assumption)); (case hd => rfl)) | ((with_reducible refine' s_ixT ?hc ?hd ?_); (case hc => exact SqT.of (by assumption)); (case hd => rfl))
  | ((with_reducible refine' s_intS ?hc ?hd ?_); (case hc => assumption); (case hd => assumption)) | ((with_reducible refine' s_lenS ?hc ?_); (case hc => assumption)))
local macro_rules | `(tactic| walk_at "uz") => `(tactic| ((repeat walk_at "uz1"); repeat ((first | (refine s_iF ?_) | (refine s_iT ?_)); (repeat walk_at "uz1"))))
theorem optI_ex {K : PySem.W.Frag} {H H' : Hp} {v : V} {o : Option (List Int)} (h : OptI K H v o) (e : Ex H H') : OptI K H' v o := by
  rcases h with h | ⟨xs, h1, q, h2, h3⟩
  · exact .inl h
  · exact .inr ⟨xs, h1, q, h2, Ex.st h3 e⟩

section
variable {P : Program} {w : World} {K : PySem.W.Frag} {mg : Str → Option Value} {base : Heap}
variable {cE cH cU cW : Addr}
theorem ok_l_right_reading (T : Tp P K mg cE cH cU cW)
    (c_l_powers_of : Cal P w K mg base 2 "_law_powers_of" P_l_powers_of [] (spPowers K))
    (c_l_same : Cal P w K mg base 2 "_law_same" P_l_same [] (spSame K))
    (c_read_product : Cal P w K mg base 3 "read_product" P_read_product [] (spRead K))
    {f : Addr} {fd : FuncData} {dvs : List V} (F : FunD K "_law_right_reading" "_law_right_reading" (defArgs s_l_right_reading) (defBody s_l_right_reading) (defScope s_l_right_reading) dvs [] f fd) : FnG P w K mg base 4 f fd P_l_right_reading (spRightReading K) := by
  refine fng F sc_l_right_reading (by walk_at "ulen") (fun cdv A outer s H vs Q E hr0 hg0 h => ?_)
  have hr : Rm 3 (A.deeper (envOfC "_law_right_reading" (defScope s_l_right_reading) s.heap.objs.size f cdv)) := ⟨hr0, hg0⟩
  have nd : N_l_right_reading.Nodup := sc_l_right_reading.nd
  obtain ⟨z, p, ns, rfl, hz, hp, nd1, h100, h32, k⟩ := h
  refine ⟨_, (pss_one (ps_ret (pe_c (E := En) c_l_same (hr.mono (by decide)) paN (pa_cons (pe_c (E := En) c_read_product (hr.mono (by decide)) paN (pa_cons (pv 0) (pa_cons (pe_callTy call_uList (by rfl) T.list b_list (pa_cons (pv 1) pa_nil)) pa_nil))) (pa_cons (pe_c (E := En) c_l_powers_of (hr.mono (by decide)) paN (pa_cons (pv 0) (pa_cons (pv 1) pa_nil))) pa_nil))))), ?_⟩
  walk_at "uk"
  walk_at "uy"
  refine s_listL hp fun l nl => ?_
  walk_at "uy"
  refine ⟨z, l, ns, rfl, hz, .inl (.of upd_same), nd1, h100, fun v H1 e1 ho => ?_⟩
  have e2 := (exN (o := .lst (ns.map V.str)) nl).tr e1
  walk_at "uy"
  refine ⟨z, p, ns, rfl, hz, Ex.sl hp e2, nd1, h100, h32, fun w H2 e3 ho2 => ?_⟩
  walk_at "uy"
  exact ⟨v, w, _, rfl, optI_ex ho e3, ho2, k _ (e2.tr e3)⟩
end
end Lw

set_option Elab.async false
set_option linter.all false
set_option maxRecDepth 100000
set_option maxHeartbeats 4000000
namespace Lw
open PySem PySem.Spec L2 Uv
open PyProof.Rows hiding St
local macro_rules | `(tactic| walk_at "umul") => `(tactic| fail)
local macro_rules | `(tactic| walk_at "us1") => `(tactic| first
  | (with_reducible refine s_seq ?_) | (with_reducible refine s_asg ?_) | (with_reducible refine s_gn ?_) | (with_reducible refine s_ret ?_) | (with_reducible refine s_drop ?_) | (with_reducible refine s_if ?_) | (with_reducible refine s_next ?_)
  | (with_reducible refine s_brk ?_) | (with_reducible refine s_cont ?_)
  | ((with_reducible refine' s_var ?hv ?_); (case hv => exact rfl)) | (with_reducible refine s_c ?_) | (with_reducible refine s_op ?_) | (with_reducible refine s_un ?_) | (with_reducible refine s_cb ?_) | (with_reducible refine s_call ?_)
  | (with_reducible refine s_cons ?_) | (with_reducible refine s_nil ?_) | (with_reducible refine s_test ?_) | (with_reducible refine s_tB ?_) | (with_reducible refine s_not ?_) | (with_reducible refine s_and ?_) | (with_reducible refine s_or ?_)
  | (with_reducible refine s_andV ?_) | (with_reducible refine s_orV ?_) | (with_reducible refine s_notV ?_) | (with_reducible refine s_ifE ?_) | (with_reducible refine s_bl ?_) | (with_reducible refine s_iT ?_) | (with_reducible refine s_iF ?_)
  | (with_reducible refine s_I0 ?_) | (with_reducible refine s_U ?_) | (with_reducible refine s_addI ?_) | (with_reducible refine s_eqI ?_) | (with_reducible refine s_eqS ?_) | (with_reducible refine s_eqB ?_) | (with_reducible refine s_neI ?_) | (with_reducible refine s_neS ?_) | (with_reducible refine s_neB ?_)
  | (with_reducible refine s_tupE ?_) | (with_reducible refine s_lstE ?_))
local macro_rules | `(tactic| walk_at "us") => `(tactic| repeat walk_at "us1")
local macro_rules | `(tactic| walk_at "ulen") => `(tactic| (intro vs H Q E h; repeat' (first | (obtain ⟨e, _⟩ := h; subst e; rfl) | (subst h; rfl) | (refine Or.elim h (fun h => ?_) (fun h => ?_)) | (obtain ⟨_, h⟩ := h))))
local macro_rules | `(tactic| walk_at "uk") => `(tactic| (try dsimp only [cxOf, Cx.suite, Cx.tr]))
local macro_rules | `(tactic| walk_at "us2") => `(tactic| first
  | walk_at "us1" | (with_reducible refine s_dput ?_) | ((with_reducible refine' s_mod ?hc ?_); (case hc => first | decide | assumption | omega))
  | (with_reducible refine s_for ?_) | (with_reducible refine s_lc ?_) | (with_reducible refine s_bm ?_) | (with_reducible refine s_ilt ?_) | (with_reducible refine s_izx ?_) | (with_reducible refine s_ienum ?_) | (with_reducible refine s_din ?_) | (with_reducible refine s_dnotin ?_) | (with_reducible refine s_itl ?_) | (with_reducible refine s_itt ?_) | (with_reducible refine s_its ?_) | (with_reducible refine s_itr ?_) | (with_reducible refine s_itr2 ?_) | (with_reducible refine s_disp ?_) | (with_reducible refine s_prn ?_) | (with_reducible refine s_prc ?_) | (with_reducible refine s_m1 ?_) | (with_reducible refine s_isS ?_) | (with_reducible refine s_um1 ?_) | (with_reducible refine s_isB ?_) | (with_reducible refine s_isn ?_) | (with_reducible refine s_notn ?_) | (with_reducible refine s_jd ?_) | (with_reducible refine s_jn ?_) | (with_reducible refine s_jc ?_) | (with_reducible refine s_fmt ?_) | (with_reducible refine s_gc ?_) | (with_reducible refine s_gnil ?_) | (with_reducible refine s_yes ?_) | (with_reducible refine s_raise ?_)
  | ((with_reducible refine' s_pow ?hc ?_); (case hc => exact ⟨by decide, by decide, by decide⟩)) | (with_reducible refine s_int ?_) | (with_reducible refine s_intB ?_) | (with_reducible refine s_strS ?_) | (with_reducible refine s_abs ?_) | (with_reducible refine s_max ?_) | (with_reducible refine s_min ?_) | (with_reducible refine s_gcd ?_)
  | (with_reducible refine s_chain ?_) | (with_reducible refine s_sl ?_) | (with_reducible refine s_noP ?_) | (with_reducible refine s_part ?_) | (with_reducible refine s_exI ?_) 
  | ((with_reducible refine' s_mulI ?hc ?_); (case hc => first | exact Or.inl (Or.inr ⟨by decide, by decide⟩) | exact Or.inl (Or.inl ⟨by decide, by decide⟩) | exact Or.inl (Or.inl ⟨by omega, by omega⟩) | exact Or.inl (Or.inr ⟨by omega, by omega⟩) | walk_at "umul"))
  | ((with_reducible refine' s_ixT ?hc ?hd ?_); (case hc => assumption); (case hd => rfl))
  | ((with_reducible refine' s_lenL ?hc ?_); (case hc => first | assumption | exact SqL.of (by assumption))) | ((with_reducible refine' s_lenT ?hc ?_); (case hc => first | assumption | exact SqT.of (by assumption)))
  | ((with_reducible refine' s_divP ?hc ?hd ?_); (case hc => first | decide | assumption | omega); (case hd => first | decide +kernel | assumption)))
local macro_rules | `(tactic| walk_at "us") => `(tactic| repeat walk_at "us2")
local macro_rules | `(tactic| walk_at "uj") => `(tactic| ((walk_at "us"); with_reducible refine s_J ?_))
local macro_rules | `(tactic| walk_at "ua") => `(tactic| ((walk_at "us"); repeat ((with_reducible refine s_ick ?_); (first | (refine s_iF ?_) | (refine s_iT ?_)); (walk_at "us"))))
local macro_rules | `(tactic| walk_at "ub") => `(tactic| walk_at "ua")
local macro_rules | `(tactic| walk_at "ux1") => `(tactic| first
  | walk_at "us2" | ((with_reducible refine' s_ixL ?hc ?hd ?_); (case hc => first | assumption | exact SqL.of (by assumption)); (case hd => rfl)) | ((with_reducible refine' s_ixT ?hc ?hd ?_); (case hc => exact SqT.of (by assumption)); (case hd => rfl))
  | ((with_reducible refine' s_intS ?hc ?hd ?_); (case hc => assumption); (case hd => assumption)) | ((with_reducible refine' s_lenS ?hc ?_); (case hc => assumption)))
local macro_rules | `(tactic| walk_at "ux") => `(tactic| repeat walk_at "ux1")
local macro_rules | `(tactic| walk_at "uy") => `(tactic| ((walk_at "ux"); repeat ((with_reducible refine s_ick ?_); (first | (refine s_iF ?_) | (refine s_iT ?_)); (walk_at "ux"))))
local macro_rules | `(tactic| walk_at "uz0") => `(tactic| first
  | (with_reducible refine s_seq ?_) | (with_reducible refine s_asg ?_) | (with_reducible refine s_gn ?_) | (with_reducible refine s_ret ?_) | (with_reducible refine s_drop ?_) | (with_reducible refine s_if ?_) | (with_reducible refine s_next ?_)
  | (with_reducible refine s_brk ?_) | (with_reducible refine s_cont ?_)
  | ((with_reducible refine' s_var ?hv ?_); (case hv => exact rfl)) | (with_reducible refine s_c ?_) | (with_reducible refine s_op ?_) | (with_reducible refine s_un ?_) | (with_reducible refine s_cb ?_) | (with_reducible refine s_call ?_)
  | (with_reducible refine s_cons ?_) | (with_reducible refine s_nil ?_) | (with_reducible refine s_test ?_) | (with_reducible refine s_tB ?_) | (with_reducible refine s_not ?_) | (with_reducible refine s_and ?_) | (with_reducible refine s_or ?_)
  | (with_reducible refine s_andV ?_) | (with_reducible refine s_orV ?_) | (with_reducible refine s_notV ?_) | (with_reducible refine s_ifE ?_) | (with_reducible refine s_bl ?_) | (with_reducible refine s_iT ?_) | (with_reducible refine s_iF ?_)
  | (with_reducible refine s_I0 ?_) | (with_reducible refine s_U ?_) | (with_reducible refine s_addI ?_) | (with_reducible refine s_eqI ?_) | (with_reducible refine s_eqS ?_) | (with_reducible refine s_eqB ?_) | (with_reducible refine s_neI ?_) | (with_reducible refine s_neS ?_) | (with_reducible refine s_neB ?_))
local macro_rules | `(tactic| walk_at "uz2") => `(tactic| first
  | walk_at "uz0" | (with_reducible refine s_dput ?_) | ((with_reducible refine' s_mod ?hc ?_); (case hc => first | decide | assumption | omega))
  | (with_reducible refine s_for ?_) | (with_reducible refine s_lc ?_) | (with_reducible refine s_bm ?_) | (with_reducible refine s_ilt ?_) | (with_reducible refine s_izx ?_) | (with_reducible refine s_ienum ?_) | (with_reducible refine s_din ?_) | (with_reducible refine s_dnotin ?_) | (with_reducible refine s_itl ?_) | (with_reducible refine s_itt ?_) | (with_reducible refine s_its ?_) | (with_reducible refine s_itr ?_) | (with_reducible refine s_itr2 ?_) | (with_reducible refine s_disp ?_) | (with_reducible refine s_prn ?_) | (with_reducible refine s_prc ?_) | (with_reducible refine s_m1 ?_) | (with_reducible refine s_isS ?_) | (with_reducible refine s_um1 ?_) | (with_reducible refine s_isB ?_) | (with_reducible refine s_isn ?_) | (with_reducible refine s_notn ?_) | (with_reducible refine s_jd ?_) | (with_reducible refine s_jn ?_) | (with_reducible refine s_jc ?_) | (with_reducible refine s_fmt ?_) | (with_reducible refine s_gc ?_) | (with_reducible refine s_gnil ?_) | (with_reducible refine s_yes ?_) | (with_reducible refine s_raise ?_)
  | ((with_reducible refine' s_pow ?hc ?_); (case hc => exact ⟨by decide, by decide, by decide⟩)) | (with_reducible refine s_int ?_) | (with_reducible refine s_intB ?_) | (with_reducible refine s_strS ?_) | (with_reducible refine s_abs ?_) | (with_reducible refine s_max ?_) | (with_reducible refine s_min ?_) | (with_reducible refine s_gcd ?_)
  | (with_reducible refine s_chain ?_) | (with_reducible refine s_sl ?_) | (with_reducible refine s_noP ?_) | (with_reducible refine s_part ?_) | (with_reducible refine s_exI ?_) 
  | ((with_reducible refine' s_mulI ?hc ?_); (case hc => first | exact Or.inl (Or.inr ⟨by decide, by decide⟩) | exact Or.inl (Or.inl ⟨by decide, by decide⟩) | exact Or.inl (Or.inl ⟨by omega, by omega⟩) | exact Or.inl (Or.inr ⟨by omega, by omega⟩) | walk_at "umul"))
  | ((with_reducible refine' s_ixT ?hc ?hd ?_); (case hc => assumption); (case hd => rfl))
  | ((with_reducible refine' s_lenL ?hc ?_); (case hc => first | assumption | exact SqL.of (by assumption))) | ((with_reducible refine' s_lenT ?hc ?_); (case hc => first | assumption | exact SqT.of (by assumption)))
  | ((with_reducible refine' s_divP ?hc ?hd ?_); (case hc => first | decide | assumption | omega); (case hd => first | decide +kernel | assumption)))
local macro_rules | `(tactic| walk_at "uz1") => `(tactic| first
  | walk_at "uz2" | ((with_reducible refine' s_ixL ?hc ?hd ?_); (case hc => first | assumption | exact SqL.of (by assumption)); (case hd => rfl)) | ((with_reducible refine' s_ixT ?hc ?hd ?_); (case hc => exact SqT.of (by assumption)); (case hd => rfl))
  | ((with_reducible refine' s_intS ?hc ?hd ?_); (case hc => assumption); (case hd => assumption)) | ((with_reducible refine' s_lenS ?hc ?_); (case hc => assumption)))
local macro_rules | `(tactic| walk_at "uz") => `(tactic| ((repeat walk_at "uz1"); repeat ((with_reducible refine s_ick ?_); (first | (refine s_iF ?_) | (refine s_iT ?_)); (repeat walk_at "uz1"))))
section
variable {P : Program} {w : World} {K : PySem.W.Frag} {mg : Str → Option Value} {base : Heap}
variable {cE cH cU cW : Addr}
theorem ok_l_spoilt (T : Tp P K mg cE cH cU cW)
    (c_l_choice : Cal P w K mg base 2 "_law_choice" P_l_choice [] (spChoice K))
    (c_l_pick : Cal P w K mg base 1 "_law_pick" P_l_pick [] (spPick))
    {f : Addr} {fd : FuncData} {dvs : List V} (F : FunD K "_law_spoilt" "_law_spoilt" (defArgs s_l_spoilt) (defBody s_l_spoilt) (defScope s_l_spoilt) dvs [] f fd) : FnG P w K mg base 3 f fd P_l_spoilt (spSpoilt) := by
  refine fng F sc_l_spoilt (by walk_at "ulen") (fun cdv A outer s H vs Q E hr0 hg0 h => ?_)
  have hr : Rm 2 (A.deeper (envOfC "_law_spoilt" (defScope s_l_spoilt) s.heap.objs.size f cdv)) := ⟨hr0, hg0⟩
  have nd : N_l_spoilt.Nodup := sc_l_spoilt.nd
  have po : PassesOwn (model P w) (cxOf (L2.CX P w) P w K mg base N_l_spoilt "_law_spoilt" (defScope s_l_spoilt) f cdv A outer s H E).A (cxOf (L2.CX P w) P w K mg base N_l_spoilt "_law_spoilt" (defScope s_l_spoilt) f cdv A outer s H E).env (cxOf (L2.CX P w) P w K mg base N_l_spoilt "_law_spoilt" (defScope s_l_spoilt) f cdv A outer s H E).xe := passes_of rfl
  obtain ⟨b, z, rfl, hb, hz, k⟩ := h
  refine ⟨_, (pss_cons (ps_for po rfl (pi_range1 (by rfl) T.range (pa_cons (pe_op op_uAdd pe_int (pe_c (E := En) c_l_pick (hr.mono (by decide)) paN (pa_cons (pv 0) (pa_cons pe_int pa_nil)))) pa_nil)) (pg_name (i := 2) nd rfl (Or.inl rfl))
    (pss_cons (ps_set (i := 3) nd rfl (Or.inl rfl) (pe_c (E := En) c_l_choice (hr.mono (by decide)) paN (pa_cons (pv 0) (pa_cons (pe_lst (pa_cons pe_int (pa_cons pe_int (pa_cons (pe_callB call_uLen (by rfl) T.len b_len (pa_cons (pv 1) pa_nil)) (pa_cons (pe_callB (call_uMax rfl) (by rfl) T.max b_max (pa_cons pe_int (pa_cons (pe_op op_sub (pe_callB call_uLen (by rfl) T.len b_len (pa_cons (pv 1) pa_nil)) pe_int) pa_nil))) (pa_cons (pe_op op_uAdd (pe_m1 PySem.F.slot_str_find PySem.F.type_str_find mt_uFind (pv 1) pe_str) pe_int) (pa_cons (pe_c (E := En) c_l_pick (hr.mono (by decide)) paN (pa_cons (pv 0) (pa_cons (pe_op op_uAdd (pe_callB call_uLen (by rfl) T.len b_len (pa_cons (pv 1) pa_nil)) pe_int) pa_nil))) pa_nil))))))) pa_nil))))
    (pss_cons (ps_set (i := 4) nd rfl (Or.inl rfl) (pe_c (E := En) c_l_choice (hr.mono (by decide)) paN (pa_cons (pv 0) (pa_cons pe_str pa_nil))))
    (pss_cons (ps_set (i := 5) nd rfl (Or.inl rfl) (pe_c (E := En) c_l_pick (hr.mono (by decide)) paN (pa_cons (pv 0) (pa_cons pe_int pa_nil))))
    (pss_one (ps_if (pt_cmpR (op_uEq hr.r.units) (pv 5) pe_int (nomark _)) (pss_one (ps_set (i := 1) nd rfl (Or.inl rfl) (pe_op op_uAdd (pe_op op_uAdd (pe_slice sl_u (pv 1) po_none (po_some (pv 3))) (pv 4)) (pe_slice sl_u (pv 1) (po_some (pv 3)) po_none)))) (pss_one (ps_if (pt_cmpR (op_uEq hr.r.units) (pv 5) pe_int (nomark _)) (pss_one (ps_set (i := 1) nd rfl (Or.inl rfl) (pe_op op_uAdd (pe_slice sl_u (pv 1) po_none (po_some (pv 3))) (pe_slice sl_u (pv 1) (po_some (pe_op op_uAdd (pv 3) pe_int)) po_none)))) (pss_one (ps_set (i := 1) nd rfl (Or.inl rfl) (pe_op op_uAdd (pe_op op_uAdd (pe_slice sl_u (pv 1) po_none (po_some (pv 3))) (pv 4)) (pe_slice sl_u (pv 1) (po_some (pe_op op_uAdd (pv 3) pe_int)) po_none))))))))))))
    (pss_one (ps_ret (pv 1)))), ?_⟩
  walk_at "uk"
  walk_at "uy"
  refine ⟨b, 2, rfl, hb, by decide, by decide, fun r H1 r0 r1 k1 => ?_⟩
  walk_at "uy"
  refine ⟨_, rfl, by omega, by omega, ?_⟩
  have o94 : (("^" : Str)).length = 1 := rfl
  refine loopR (n := (1 + r).toNat) (fun i σ' H' => Kb b H H' ∧ ∃ (x : Str) (o2 o3 o4 o5 : Option V), x.length + 1 ≤ 600 * 2 ^ i ∧ x.length ≤ 5000 ∧ σ' = [some (.ref b), some (.str x), o2, o3, o4, o5]) ⟨k1, z, none, none, none, none, by omega, by omega, rfl⟩ ?_ ?_
  · rintro σ' H2 ⟨k2, x, o2, o3, o4, o5, _, hx, rfl⟩
    walk_at "uy"
    exact k x H2 hx k2
  · rintro i σ' H2 hi ⟨k2, x, o2, o3, o4, o5, hx, _, rfl⟩
    have hx2 : x.length ≤ 1200 := by
      have : 2 ^ i ≤ 2 ^ 1 := Nat.pow_le_pow_right (by decide) (by omega)
      omega
    walk_at "uy"
    have lx : x.length ≤ sizeLine := by show _ ≤ 16777216; omega
    refine s_lenS lx ?_
    walk_at "uy"
    refine ⟨b, _, rfl, k2.b1, by omega, lt_log9000 (by omega), fun q H3 q0 q1 k3 => ?_⟩
    walk_at "uy"
    refine s_szN (Nat.le_of_ble_eq_true rfl) fun l nl => ?_
    walk_at "uy"
    have k23 := k2.tr k3
    have k4 := k23.tr ((exN (o := .lst [.int 0, .int 1, .int x.length, .int (max 0 (x.length - 1)), .int (Txt.find x "^" + 1), .int q]) nl).kb k23.b1)
    refine ⟨b, k4.b1, .inl ⟨l, _, rfl, .of upd_same, Nat.succ_pos _, Nat.le_of_ble_eq_true rfl, fun v H6 hv k6 => ?_⟩⟩
    obtain ⟨at_, rfl⟩ : ∃ j : Int, v = .int j := by
      simp only [List.mem_cons, List.not_mem_nil, or_false] at hv
      rcases hv with rfl | rfl | rfl | rfl | rfl | rfl <;> exact ⟨_, rfl⟩
    have k46 := k4.tr k6
    walk_at "uy"
    refine ⟨b, k46.b1, .inr ⟨"1290^-*/+ ._aqA\n", rfl, by decide +kernel, by decide +kernel, fun c H7 hc k7 => ?_⟩⟩
    walk_at "uy"
    have k47 := k46.tr k7
    refine ⟨b, 3, rfl, k47.b1, by decide, by decide, fun w H8 w0 w1 k8 => ?_⟩
    have k48 := k47.tr k8
    walk_at "uy"
    have c1 := cutS_length x none (some at_)
    have c2 := cutS_length x (some at_) none
    have c3 := cutS_length x (some (at_ + 1)) none
    have o1 : (⟨#[c]⟩ : Str).length = 1 := rfl
    have p2 : 2 ^ (i + 1) = 2 ^ i * 2 := Nat.pow_succ 2 i
    have p1 : 1 ≤ 2 ^ i := Nat.one_le_two_pow
    refine s_ite (fun h0 => ?_) (fun h0 => ?_)
    · walk_at "uy"
      refine s_slS lx ?_
      walk_at "uy"
      refine s_addS (by rw [o1]; show _ ≤ 16777216; omega) ?_
      walk_at "uy"
      refine s_slS lx ?_
      refine s_addS (by rw [app_len, o1]; show _ ≤ 16777216; omega) ?_
      walk_at "uy"
      exact ⟨k48, _, _, _, _, _, by rw [app_len, app_len, o1]; omega, by rw [app_len, app_len, o1]; omega, rfl⟩
    walk_at "uy"
    refine s_ite (fun h1 => ?_) (fun h1 => ?_)
    · walk_at "uy"
      refine s_slS lx ?_
      walk_at "uy"
      refine s_slS lx ?_
      refine s_addS (by show _ ≤ 16777216; omega) ?_
      walk_at "uy"
      exact ⟨k48, _, _, _, _, _, by rw [app_len]; omega, by rw [app_len]; omega, rfl⟩
    · walk_at "uy"
      refine s_slS lx ?_
      walk_at "uy"
      refine s_addS (by rw [o1]; show _ ≤ 16777216; omega) ?_
      walk_at "uy"
      refine s_slS lx ?_
      refine s_addS (by rw [app_len, o1]; show _ ≤ 16777216; omega) ?_
      walk_at "uy"
      exact ⟨k48, _, _, _, _, _, by rw [app_len, app_len, o1]; omega, by rw [app_len, app_len, o1]; omega, rfl⟩
end
end Lw

set_option Elab.async false
set_option linter.all false
set_option maxRecDepth 100000
set_option maxHeartbeats 4000000
namespace Lw
open PySem PySem.Spec L2 Uv
open PyProof.Rows hiding St
local macro_rules | `(tactic| walk_at "umul") => `(tactic| fail)
local macro_rules | `(tactic| walk_at "us1") => `(tactic| first
  | (with_reducible refine s_seq ?_) | (with_reducible refine s_asg ?_) | (with_reducible refine s_gn ?_) | (with_reducible refine s_ret ?_) | (with_reducible refine s_drop ?_) | (with_reducible refine s_if ?_) | (with_reducible refine s_next ?_)
  | (with_reducible refine s_brk ?_) | (with_reducible refine s_cont ?_)
  | ((with_reducible refine' s_var ?hv ?_); (case hv => exact rfl)) | (with_reducible refine s_c ?_) | (with_reducible refine s_op ?_) | (with_reducible refine s_un ?_) | (with_reducible refine s_cb ?_) | (with_reducible refine s_call ?_)
  | (with_reducible refine s_cons ?_) | (with_reducible refine s_nil ?_) | (with_reducible refine s_test ?_) | (with_reducible refine s_tB ?_) | (with_reducible refine s_not ?_) | (with_reducible refine s_and ?_) | (with_reducible refine s_or ?_)
  | (with_reducible refine s_andV ?_) | (with_reducible refine s_orV ?_) | (with_reducible refine s_notV ?_) | (with_reducible refine s_ifE ?_) | (with_reducible refine s_bl ?_) | (with_reducible refine s_iT ?_) | (with_reducible refine s_iF ?_)
  | (with_reducible refine s_I0 ?_) | (with_reducible refine s_U ?_) | (with_reducible refine s_addI ?_) | (with_reducible refine s_eqI ?_) | (with_reducible refine s_eqS ?_) | (with_reducible refine s_eqB ?_) | (with_reducible refine s_neI ?_) | (with_reducible refine s_neS ?_) | (with_reducible refine s_neB ?_)
  | (with_reducible refine s_tupE ?_) | (with_reducible refine s_lstE ?_))
local macro_rules | `(tactic| walk_at "us") => `(tactic| repeat walk_at "us1")
local macro_rules | `(tactic| walk_at "ulen") => `(tactic| (intro vs H Q E h; repeat' (first | (obtain ⟨e, _⟩ := h; subst e; rfl) | (subst h; rfl) | (refine Or.elim h (fun h => ?_) (fun h => ?_)) | (obtain ⟨_, h⟩ := h))))
local macro_rules | `(tactic| walk_at "uk") => `(tactic| (try dsimp only [cxOf, Cx.suite, Cx.tr]))
local macro_rules | `(tactic| walk_at "us2") => `(tactic| first
  | walk_at "us1" | (with_reducible refine s_dput ?_) | ((with_reducible refine' s_mod ?hc ?_); (case hc => first | decide | assumption | omega))
  | (with_reducible refine s_for ?_) | (with_reducible refine s_lc ?_) | (with_reducible refine s_bm ?_) | (with_reducible refine s_ilt ?_) | (with_reducible refine s_izx ?_) | (with_reducible refine s_ienum ?_) | (with_reducible refine s_din ?_) | (with_reducible refine s_dnotin ?_) | (with_reducible refine s_itl ?_) | (with_reducible refine s_itt ?_) | (with_reducible refine s_its ?_) | (with_reducible refine s_itr ?_) | (with_reducible refine s_itr2 ?_) | (with_reducible refine s_disp ?_) | (with_reducible refine s_prn ?_) | (with_reducible refine s_prc ?_) | (with_reducible refine s_m1 ?_) | (with_reducible refine s_isS ?_) | (with_reducible refine s_um1 ?_) | (with_reducible refine s_isB ?_) | (with_reducible refine s_isn ?_) | (with_reducible refine s_notn ?_) | (with_reducible refine s_jd ?_) | (with_reducible refine s_jn ?_) | (with_reducible refine s_jc ?_) | (with_reducible refine s_fmt ?_) | (with_reducible refine s_gc ?_) | (with_reducible refine s_gnil ?_) | (with_reducible refine s_yes ?_) | (with_reducible refine s_raise ?_)
  | ((with_reducible refine' s_pow ?hc ?_); (case hc => exact ⟨by decide, by decide, by decide⟩)) | (with_reducible refine s_int ?_) | (with_reducible refine s_intB ?_) | (with_reducible refine s_strS ?_) | (with_reducible refine s_abs ?_) | (with_reducible refine s_max ?_) | (with_reducible refine s_min ?_) | (with_reducible refine s_gcd ?_)
  | (with_reducible refine s_chain ?_) | (with_reducible refine s_sl ?_) | (with_reducible refine s_noP ?_) | (with_reducible refine s_part ?_) | (with_reducible refine s_exI ?_) 
  | ((with_reducible refine' s_mulI ?hc ?_); (case hc => first | exact Or.inl (Or.inr ⟨by decide, by decide⟩) | exact Or.inl (Or.inl ⟨by decide, by decide⟩) | exact Or.inl (Or.inl ⟨by omega, by omega⟩) | exact Or.inl (Or.inr ⟨by omega, by omega⟩) | walk_at "umul"))
  | ((with_reducible refine' s_ixT ?hc ?hd ?_); (case hc => assumption); (case hd => rfl))
  | ((with_reducible refine' s_lenL ?hc ?_); (case hc => first | assumption | exact SqL.of (by assumption))) | ((with_reducible refine' s_lenT ?hc ?_); (case hc => first | assumption | exact SqT.of (by assumption)))
  | ((with_reducible refine' s_divP ?hc ?hd ?_); (case hc => first | decide | assumption | omega); (case hd => first | decide +kernel | assumption)))
local macro_rules | `(tactic| walk_at "us") => `(tactic| repeat walk_at "us2")
local macro_rules | `(tactic| walk_at "uj") => `(tactic| ((walk_at "us"); with_reducible refine s_J ?_))
local macro_rules | `(tactic| walk_at "ua") => `(tactic| ((walk_at "us"); repeat ((first | (refine s_iF ?_) | (refine s_iT ?_)); (walk_at "us"))))
local macro_rules | `(tactic| walk_at "ub") => `(tactic| walk_at "ua")
local macro_rules | `(tactic| walk_at "ux1") => `(tactic| first
  | walk_at "us2" | ((with_reducible refine' s_ixL ?hc ?hd ?_); (case hc => first | assumption | exact SqL.of (by assumption)); (case hd => rfl)) | ((with_reducible refine' s_ixT ?hc ?hd ?_); (case hc => exact SqT.of (by assumption)); (case hd => rfl))
  | ((with_reducible refine' s_intS ?hc ?hd ?_); (case hc => assumption); (case hd => assumption)) | ((with_reducible refine' s_lenS ?hc ?_); (case hc => assumption)))
local macro_rules | `(tactic| walk_at "ux") => `(tactic| repeat walk_at "ux1")
local macro_rules | `(tactic| walk_at "uy") => `(tactic| ((walk_at "ux"); repeat ((first | (refine s_iF ?_) | (refine s_iT ?_)); (walk_at "ux"))))
local macro_rules | `(tactic| walk_at "uz0") => `(tactic| first
  | (with_reducible refine s_seq ?_) | (with_reducible refine s_asg ?_) | (with_reducible refine s_gn ?_) | (with_reducible refine s_ret ?_) | (with_reducible refine s_drop ?_) | (with_reducible refine s_if ?_) | (with_reducible refine s_next ?_)
  | (with_reducible refine s_brk ?_) | (with_reducible refine s_cont ?_)
  | ((with_reducible refine' s_var ?hv ?_); (case hv => exact rfl)) | (with_reducible refine s_c ?_) | (with_reducible refine s_op ?_) | (with_reducible refine s_un ?_) | (with_reducible refine s_cb ?_) | (with_reducible refine s_call ?_)
  | (with_reducible refine s_cons ?_) | (with_reducible refine s_nil ?_) | (with_reducible refine s_test ?_) | (with_reducible refine s_tB ?_) | (with_reducible refine s_not ?_) | (with_reducible refine s_and ?_) | (with_reducible refine s_or ?_)
  | (with_reducible refine s_andV ?_) | (with_reducible refine s_orV ?_) | (with_reducible refine s_notV ?_) | (with_reducible refine s_ifE ?_) | (with_reducible refine s_bl ?_) | (with_reducible refine s_iT ?_) | (with_reducible refine s_iF ?_)
  | (with_reducible refine s_I0 ?_) | (with_reducible refine s_U ?_) | (with_reducible refine s_addI ?_) | (with_reducible refine s_eqI ?_) | (with_reducible refine s_eqS ?_) | (with_reducible refine s_eqB ?_) | (with_reducible refine s_neI ?_) | (with_reducible refine s_neS ?_) | (with_reducible refine s_neB ?_))
local macro_rules | `(tactic| walk_at "uz2") => `(tactic| first
  | walk_at "uz0" | (with_reducible refine s_dput ?_) | ((with_reducible refine' s_mod ?hc ?_); (case hc => first | decide | assumption | omega))
  | (with_reducible refine s_for ?_) | (with_reducible refine s_lc ?_) | (with_reducible refine s_bm ?_) | (with_reducible refine s_ilt ?_) | (with_reducible refine s_izx ?_) | (with_reducible refine s_ienum ?_) | (with_reducible refine s_din ?_) | (with_reducible refine s_dnotin ?_) | (with_reducible refine s_itl ?_) | (with_reducible refine s_itt ?_) | (with_reducible refine s_its ?_) | (with_reducible refine s_itr ?_) | (with_reducible refine s_itr2 ?_) | (with_reducible refine s_disp ?_) | (with_reducible refine s_prn ?_) | (with_reducible refine s_prc ?_) | (with_reducible refine s_m1 ?_) | (with_reducible refine s_isS ?_) | (with_reducible refine s_um1 ?_) | (with_reducible refine s_isB ?_) | (with_reducible refine s_isn ?_) | (with_reducible refine s_notn ?_) | (with_reducible refine s_jd ?_) | (with_reducible refine s_jn ?_) | (with_reducible refine s_jc ?_) | (with_reducible refine s_fmt ?_) | (with_reducible refine s_gc ?_) | (with_reducible refine s_gnil ?_) | (with_reducible refine s_yes ?_) | (with_reducible refine s_raise ?_)
  | ((with_reducible refine' s_pow ?hc ?_); (case hc => exact ⟨by decide, by decide, by decide⟩)) | (with_reducible refine s_int ?_) | (with_reducible refine s_intB ?_) | (with_reducible refine s_strS ?_) | (with_reducible refine s_abs ?_) | (with_reducible refine s_max ?_) | (with_reducible refine s_min ?_) | (with_reducible refine s_gcd ?_)
  | (with_reducible refine s_chain ?_) | (with_reducible refine s_sl ?_) | (with_reducible refine s_noP ?_) | (with_reducible refine s_part ?_) | (with_reducible refine s_exI ?_) 
  | ((with_reducible refine' s_mulI ?hc ?_); (case hc => first | exact Or.inl (Or.inr ⟨by decide, by decide⟩) | exact Or.inl (Or.inl ⟨by decide, by decide⟩) | exact Or.inl (Or.inl ⟨by omega, by omega⟩) | exact Or.inl (Or.inr ⟨by omega, by omega⟩) | walk_at "umul"))
  | ((with_reducible refine' s_ixT ?hc ?hd ?_); (case hc => assumption); (case hd => rfl))
  | ((with_reducible refine' s_lenL ?hc ?_); (case hc => first | assumption | exact SqL.of (by assumption))) | ((with_reducible refine' s_lenT ?hc ?_); (case hc => first | assumption | exact SqT.of (by assumption)))
  | ((with_reducible refine' s_divP ?hc ?hd ?_); (case hc => first | decide | assumption | omega); (case hd => first | decide +kernel | assumption)))
local macro_rules | `(tactic| walk_at "uz1") => `(tactic| first
  | walk_at "uz2" | ((with_reducible refine' s_ixL ?hc ?hd ?_); (case hc => first | assumption | exact SqL.of (by assumption)); (case hd => rfl)) | ((with_reducible refine' s_ixT ?hc ?hd ?_); (case hc => exact SqT.of (by assumption)); (case hd => rfl))
  | ((with_reducible refine' s_intS ?hc ?hd ?_); (case hc => assumption); (case hd => assumption)) | ((with_reducible refine' s_lenS ?hc ?_); (case hc => assumption)))
local macro_rules | `(tactic| walk_at "uz") => `(tactic| ((repeat walk_at "uz1"); repeat ((first | (refine s_iF ?_) | (refine s_iT ?_)); (repeat walk_at "uz1"))))
theorem txe_up {K : PySem.W.Frag} {σ : L2.St} {te : TE} {d : Nat} (h1 : TxE K σ te d) : TxE K σ (tM0 (fun x xs H Q => ∃ a, x = .str a ∧ xs = [] ∧ a.length ≤ 5592405 ∧ Q (.str (Txt.upper a)) H) te) (3 * d) := ⟨fun l H Q q => h1.h (by omega) H _ fun a ha => ⟨⟨a, rfl⟩, a, rfl, rfl, by omega, q _ (by have := len_upper a; omega)⟩⟩
theorem add_len {zs ys : List Str} {d : Nat} (h1 : ∀ z ∈ zs, z.length ≤ 4000) (h2 : ∀ y ∈ ys, y.length ≤ d) (hd : d ≤ 4000) : ∀ z ∈ zs ++ ys, z.length ≤ 4000 := fun z hz => by
  rcases List.mem_append.mp hz with hz | hz
  · exact h1 z hz
  · exact Nat.le_trans (h2 z hz) hd
local macro_rules | `(tactic| walk_at "txa") => `(tactic| repeat' (first | exact txa_nil | refine txa_cons ?_ ?_ | exact txe_c _ | exact txv rfl (by assumption) | refine txe_add ?_ ?_ | refine txe_up ?_))
section
variable {P : Program} {w : World} {K : PySem.W.Frag} {mg : Str → Option Value} {base : Heap}
variable {cE cH cU cW : Addr}
theorem ok_l_odd_texts (T : Tp P K mg cE cH cU cW)
    {f : Addr} {fd : FuncData} {dvs : List V} (F : FunD K "_law_odd_texts" "_law_odd_texts" (defArgs s_l_odd_texts) (defBody s_l_odd_texts) (defScope s_l_odd_texts) dvs [] f fd) : FnG P w K mg base 1 f fd P_l_odd_texts (spOddTexts) := by
  refine fng F sc_l_odd_texts (by walk_at "ulen") (fun cdv A outer s H vs Q E hr0 hg0 h => ?_)
  have hr : Rm 0 (A.deeper (envOfC "_law_odd_texts" (defScope s_l_odd_texts) s.heap.objs.size f cdv)) := ⟨hr0, hg0⟩
  have nd : N_l_odd_texts.Nodup := sc_l_odd_texts.nd
  obtain ⟨a, b, rfl, ha, hb, k⟩ := h
  refine ⟨_, (pss_cons (ps_set (i := 2) nd rfl (Or.inl rfl) (pe_lst (pa_cons pe_str (pa_cons pe_str (pa_cons pe_str (pa_cons pe_str (pa_cons pe_str (pa_cons pe_str (pa_cons pe_str (pa_cons pe_str (pa_cons pe_str (pa_cons pe_str (pa_cons pe_str (pa_cons pe_str (pa_cons pe_str (pa_cons pe_str (pa_cons pe_str (pa_cons pe_str (pa_cons pe_str pa_nil)))))))))))))))))))
    (pss_cons (ps_set (i := 2) nd rfl (Or.inl rfl) (pe_op op_uAdd (pv 2) (pe_lc (own := [("_law_one", 3)]) (g := gName 3) (by rfl) nd (pi_list (pe_lst (pa_cons pe_str (pa_cons pe_str (pa_cons pe_str (pa_cons pe_str (pa_cons pe_str (pa_cons pe_str (pa_cons pe_str (pa_cons pe_str (pa_cons pe_str (pa_cons pe_str (pa_cons pe_str (pa_cons pe_str (pa_cons pe_str pa_nil))))))))))))))) (blkOk_by (own := [("_law_one", 3)]) (N := N_l_odd_texts) (sc := defScope s_l_odd_texts) (by decide +kernel)) (fun s_ H_ C_ cl_ fp_ => pg_name (i := 3) nd rfl (Or.inl rfl)) (fun s_ H_ C_ cl_ fp_ => pts_nil) (fun s_ H_ C_ cl_ fp_ => (pe_op (op_uAddK (K := K) rfl) (pv 0) (pv 3))))))
    (pss_cons (ps_set (i := 2) nd rfl (Or.inl rfl) (pe_op op_uAdd (pv 2) (pe_lc (own := [("_law_one", 3)]) (g := gName 3) (by rfl) nd (pi_list (pe_lst (pa_cons pe_str (pa_cons pe_str (pa_cons pe_str (pa_cons pe_str (pa_cons pe_str (pa_cons pe_str (pa_cons pe_str (pa_cons pe_str (pa_cons pe_str (pa_cons pe_str (pa_cons pe_str (pa_cons pe_str (pa_cons pe_str pa_nil))))))))))))))) (blkOk_by (own := [("_law_one", 3)]) (N := N_l_odd_texts) (sc := defScope s_l_odd_texts) (by decide +kernel)) (fun s_ H_ C_ cl_ fp_ => pg_name (i := 3) nd rfl (Or.inl rfl)) (fun s_ H_ C_ cl_ fp_ => pts_nil) (fun s_ H_ C_ cl_ fp_ => (pe_op (op_uAddK (K := K) rfl) (pv 0) (pv 3))))))
    (pss_cons (ps_set (i := 2) nd rfl (Or.inl rfl) (pe_op op_uAdd (pv 2) (pe_lc (own := [("_law_one", 3)]) (g := gName 3) (by rfl) nd (pi_list (pe_lst (pa_cons pe_str (pa_cons pe_str (pa_cons pe_str (pa_cons pe_str (pa_cons pe_str (pa_cons pe_str (pa_cons pe_str (pa_cons pe_str (pa_cons pe_str (pa_cons pe_str (pa_cons pe_str (pa_cons pe_str (pa_cons pe_str (pa_cons pe_str pa_nil)))))))))))))))) (blkOk_by (own := [("_law_one", 3)]) (N := N_l_odd_texts) (sc := defScope s_l_odd_texts) (by decide +kernel)) (fun s_ H_ C_ cl_ fp_ => pg_name (i := 3) nd rfl (Or.inl rfl)) (fun s_ H_ C_ cl_ fp_ => pts_nil) (fun s_ H_ C_ cl_ fp_ => (pe_op (op_uAddK (K := K) rfl) (pv 3) (pv 0))))))
    (pss_cons (ps_set (i := 2) nd rfl (Or.inl rfl) (pe_op op_uAdd (pv 2) (pe_lc (own := [("_law_one", 3)]) (g := gName 3) (by rfl) nd (pi_list (pe_lst (pa_cons pe_str (pa_cons pe_str (pa_cons pe_str (pa_cons pe_str (pa_cons pe_str (pa_cons pe_str (pa_cons pe_str (pa_cons pe_str (pa_cons pe_str (pa_cons pe_str (pa_cons pe_str (pa_cons pe_str (pa_cons pe_str pa_nil))))))))))))))) (blkOk_by (own := [("_law_one", 3)]) (N := N_l_odd_texts) (sc := defScope s_l_odd_texts) (by decide +kernel)) (fun s_ H_ C_ cl_ fp_ => pg_name (i := 3) nd rfl (Or.inl rfl)) (fun s_ H_ C_ cl_ fp_ => pts_nil) (fun s_ H_ C_ cl_ fp_ => (pe_op (op_uAddK (K := K) rfl) (pe_op (op_uAddK (K := K) rfl) (pv 0) (pv 3)) (pv 1))))))
    (pss_cons (ps_set (i := 2) nd rfl (Or.inl rfl) (pe_op op_uAdd (pv 2) (pe_lc (own := [("_law_one", 3)]) (g := gName 3) (by rfl) nd (pi_list (pe_lst (pa_cons pe_str (pa_cons pe_str (pa_cons pe_str (pa_cons pe_str (pa_cons pe_str (pa_cons pe_str (pa_cons pe_str (pa_cons pe_str (pa_cons (pe_op op_uAdd (pe_op op_uAdd (pe_op op_uAdd (pe_op op_uAdd pe_str (pv 0)) pe_str) (pv 0)) pe_str) pa_nil))))))))))) (blkOk_by (own := [("_law_one", 3)]) (N := N_l_odd_texts) (sc := defScope s_l_odd_texts) (by decide +kernel)) (fun s_ H_ C_ cl_ fp_ => pg_name (i := 3) nd rfl (Or.inl rfl)) (fun s_ H_ C_ cl_ fp_ => pts_nil) (fun s_ H_ C_ cl_ fp_ => (pe_op (op_uAddK (K := K) rfl) (pe_op (op_uAddK (K := K) rfl) (pv 0) (pv 3)) (pv 0))))))
    (pss_one (ps_ret (pe_op op_uAdd (pv 2) (pe_lst (pa_cons (pe_op op_uAdd (pe_op op_uAdd (pe_op op_uAdd (pv 0) pe_str) (pv 0)) pe_str) (pa_cons (pe_op op_uAdd (pe_op op_uAdd (pe_op op_uAdd (pv 0) pe_str) (pv 0)) pe_str) (pa_cons (pe_op op_uAdd (pe_op op_uAdd (pe_op op_uAdd (pv 0) pe_str) (pv 1)) pe_str) (pa_cons (pe_upper (pv 0)) (pa_cons (pe_op op_uAdd (pv 0) (pe_upper (pv 1))) pa_nil))))))))))))))), ?_⟩
  walk_at "uk"
  walk_at "uz"
  refine s_txl (K := K) (by decide +kernel) (by decide) fun c0 z0 H0 n0 e0 f0 l0 k0 => ?_
  have w0 : ∀ z ∈ z0, z.length ≤ 4000 := fun z hz => Nat.le_trans (l0 z hz) (by decide +kernel)
  clear l0
  walk_at "uz"
  refine s_txl (K := K) (by decide +kernel) (by decide) fun a1 x1 A1 m1 g1 r1 l1 j1 => ?_
  have v1 : ∀ z ∈ x1, z.length ≤ 200 := fun z hz => Nat.le_trans (l1 z hz) (by decide +kernel)
  refine s_txc (.of r1) (by omega) (d := 12 + 200) (by decide) (fun v => rfl) (fun z hz => ?_) fun b1 y1 B1 n1' h1 q1 t1 i1 => ?_
  · replace hz := v1 z hz
    exact txe_add (txv rfl ha) (txv rfl hz)
  refine s_addL (h1 _ _ (g1 _ _ f0)) q1 (by rw [List.length_map, List.length_map]; show _ ≤ 16777216; omega) fun c1 np1 => ?_
  have e1 := e0.tr ((g1.tr h1).tr (exN (o := .lst ((z0).map V.str ++ y1.map V.str)) np1))
  have f1 : upd B1 c1 (.lst ((z0).map V.str ++ y1.map V.str)) c1 = some (.lst ((z0 ++ y1).map V.str)) := by rw [List.map_append (l₁ := z0) (l₂ := y1)]; exact upd_same
  generalize upd B1 c1 (.lst ((z0).map V.str ++ y1.map V.str)) = H1 at e1 f1
  have w1 := add_len w0 t1 (by decide)
  walk_at "uz"
  refine s_txl (K := K) (by decide +kernel) (by decide) fun a2 x2 A2 m2 g2 r2 l2 j2 => ?_
  have v2 : ∀ z ∈ x2, z.length ≤ 200 := fun z hz => Nat.le_trans (l2 z hz) (by decide +kernel)
  refine s_txc (.of r2) (by omega) (d := 12 + 200) (by decide) (fun v => rfl) (fun z hz => ?_) fun b2 y2 B2 n2' h2 q2 t2 i2 => ?_
  · replace hz := v2 z hz
    exact txe_add (txv rfl ha) (txv rfl hz)
  refine s_addL (h2 _ _ (g2 _ _ f1)) q2 (by rw [List.length_map, List.length_map]; show _ ≤ 16777216; simp only [List.length_append]; omega) fun c2 np2 => ?_
  have e2 := e1.tr ((g2.tr h2).tr (exN (o := .lst ((z0 ++ y1).map V.str ++ y2.map V.str)) np2))
  have f2 : upd B2 c2 (.lst ((z0 ++ y1).map V.str ++ y2.map V.str)) c2 = some (.lst ((z0 ++ y1 ++ y2).map V.str)) := by rw [List.map_append (l₁ := z0 ++ y1) (l₂ := y2)]; exact upd_same
  generalize upd B2 c2 (.lst ((z0 ++ y1).map V.str ++ y2.map V.str)) = H2 at e2 f2
  have w2 := add_len w1 t2 (by decide)
  walk_at "uz"
  refine s_txl (K := K) (by decide +kernel) (by decide) fun a3 x3 A3 m3 g3 r3 l3 j3 => ?_
  have v3 : ∀ z ∈ x3, z.length ≤ 200 := fun z hz => Nat.le_trans (l3 z hz) (by decide +kernel)
  refine s_txc (.of r3) (by omega) (d := 200 + 12) (by decide) (fun v => rfl) (fun z hz => ?_) fun b3 y3 B3 n3' h3 q3 t3 i3 => ?_
  · replace hz := v3 z hz
    exact txe_add (txv rfl hz) (txv rfl ha)
  refine s_addL (h3 _ _ (g3 _ _ f2)) q3 (by rw [List.length_map, List.length_map]; show _ ≤ 16777216; simp only [List.length_append]; omega) fun c3 np3 => ?_
  have e3 := e2.tr ((g3.tr h3).tr (exN (o := .lst ((z0 ++ y1 ++ y2).map V.str ++ y3.map V.str)) np3))
  have f3 : upd B3 c3 (.lst ((z0 ++ y1 ++ y2).map V.str ++ y3.map V.str)) c3 = some (.lst ((z0 ++ y1 ++ y2 ++ y3).map V.str)) := by rw [List.map_append (l₁ := z0 ++ y1 ++ y2) (l₂ := y3)]; exact upd_same
  generalize upd B3 c3 (.lst ((z0 ++ y1 ++ y2).map V.str ++ y3.map V.str)) = H3 at e3 f3
  have w3 := add_len w2 t3 (by decide)
  walk_at "uz"
  refine s_txl (K := K) (by decide +kernel) (by decide) fun a4 x4 A4 m4 g4 r4 l4 j4 => ?_
  have v4 : ∀ z ∈ x4, z.length ≤ 200 := fun z hz => Nat.le_trans (l4 z hz) (by decide +kernel)
  refine s_txc (.of r4) (by omega) (d := 12 + 200 + 12) (by decide) (fun v => rfl) (fun z hz => ?_) fun b4 y4 B4 n4' h4 q4 t4 i4 => ?_
  · replace hz := v4 z hz
    exact txe_add (txe_add (txv rfl ha) (txv rfl hz)) (txv rfl hb)
  refine s_addL (h4 _ _ (g4 _ _ f3)) q4 (by rw [List.length_map, List.length_map]; show _ ≤ 16777216; simp only [List.length_append]; omega) fun c4 np4 => ?_
  have e4 := e3.tr ((g4.tr h4).tr (exN (o := .lst ((z0 ++ y1 ++ y2 ++ y3).map V.str ++ y4.map V.str)) np4))
  have f4 : upd B4 c4 (.lst ((z0 ++ y1 ++ y2 ++ y3).map V.str ++ y4.map V.str)) c4 = some (.lst ((z0 ++ y1 ++ y2 ++ y3 ++ y4).map V.str)) := by rw [List.map_append (l₁ := z0 ++ y1 ++ y2 ++ y3) (l₂ := y4)]; exact upd_same
  generalize upd B4 c4 (.lst ((z0 ++ y1 ++ y2 ++ y3).map V.str ++ y4.map V.str)) = H4 at e4 f4
  have w4 := add_len w3 t4 (by decide)
  walk_at "uz"
  refine s_txl' (K := K) (txa_cons (txe_c _) (txa_cons (txe_c _) (txa_cons (txe_c _) (txa_cons (txe_c _) (txa_cons (txe_c _) (txa_cons (txe_c _) (txa_cons (txe_c _) (txa_cons (txe_c _) (txa_cons (txe_add (txe_add (txe_add (txe_add (txe_c _) (txv rfl ha)) (txe_c _)) (txv rfl ha)) (txe_c _)) txa_nil))))))))) (by decide +kernel) (by decide) fun a5 x5 A5 m5 g5 r5 l5 j5 => ?_
  have v5 : ∀ z ∈ x5, z.length ≤ 200 := fun z hz => Nat.le_trans (l5 z hz) (by decide +kernel)
  refine s_txc (.of r5) (by omega) (d := 12 + 200 + 12) (by decide) (fun v => rfl) (fun z hz => ?_) fun b5 y5 B5 n5' h5 q5 t5 i5 => ?_
  · replace hz := v5 z hz
    exact txe_add (txe_add (txv rfl ha) (txv rfl hz)) (txv rfl ha)
  refine s_addL (h5 _ _ (g5 _ _ f4)) q5 (by rw [List.length_map, List.length_map]; show _ ≤ 16777216; simp only [List.length_append]; omega) fun c5 np5 => ?_
  have e5 := e4.tr ((g5.tr h5).tr (exN (o := .lst ((z0 ++ y1 ++ y2 ++ y3 ++ y4).map V.str ++ y5.map V.str)) np5))
  have f5 : upd B5 c5 (.lst ((z0 ++ y1 ++ y2 ++ y3 ++ y4).map V.str ++ y5.map V.str)) c5 = some (.lst ((z0 ++ y1 ++ y2 ++ y3 ++ y4 ++ y5).map V.str)) := by rw [List.map_append (l₁ := z0 ++ y1 ++ y2 ++ y3 ++ y4) (l₂ := y5)]; exact upd_same
  generalize upd B5 c5 (.lst ((z0 ++ y1 ++ y2 ++ y3 ++ y4).map V.str ++ y5.map V.str)) = H5 at e5 f5
  have w5 := add_len w4 t5 (by decide)
  walk_at "uz"
  refine s_txl' (K := K) (txa_cons (txe_add (txe_add (txe_add (txv rfl ha) (txe_c _)) (txv rfl ha)) (txe_c _)) (txa_cons (txe_add (txe_add (txe_add (txv rfl ha) (txe_c _)) (txv rfl ha)) (txe_c _)) (txa_cons (txe_add (txe_add (txe_add (txv rfl ha) (txe_c _)) (txv rfl hb)) (txe_c _)) (txa_cons (txe_up (txv rfl ha)) (txa_cons (txe_add (txv rfl ha) (txe_up (txv rfl hb))) txa_nil))))) (by decide +kernel) (by decide) fun a6 x6 A6 m6 g6 r6 l6 j6 => ?_
  refine s_addL (g6 _ _ f5) r6 (by rw [List.length_map, List.length_map]; show _ ≤ 16777216; simp only [List.length_append]; omega) fun c6 np6 => ?_
  refine k c6 (z0 ++ y1 ++ y2 ++ y3 ++ y4 ++ y5 ++ x6) _ (fun z hz => ?_) (by simp only [List.length_append]; omega) (e5.tr (g6.tr (exN np6))) (by rw [List.map_append (l₁ := z0 ++ y1 ++ y2 ++ y3 ++ y4 ++ y5) (l₂ := x6)]; exact upd_same)
  exact Nat.le_trans (add_len w5 l6 (by decide +kernel) z hz) (by decide)
end
end Lw

set_option Elab.async false
set_option linter.all false
set_option maxRecDepth 100000
set_option maxHeartbeats 4000000
namespace Lw
open PySem PySem.Spec L2 Uv
open PyProof.Rows hiding St
local macro_rules | `(tactic| walk_at "umul") => `(tactic| fail)
local macro_rules | `(tactic| walk_at "us1") => `(tactic| first
  | (with_reducible refine s_seq ?_) | (with_reducible refine s_asg ?_) | (with_reducible refine s_gn ?_) | (with_reducible refine s_ret ?_) | (with_reducible refine s_drop ?_) | (with_reducible refine s_if ?_) | (with_reducible refine s_next ?_)
  | (with_reducible refine s_brk ?_) | (with_reducible refine s_cont ?_)
  | ((with_reducible refine' s_var ?hv ?_); (case hv => exact rfl)) | (with_reducible refine s_c ?_) | (with_reducible refine s_op ?_) | (with_reducible refine s_un ?_) | (with_reducible refine s_cb ?_) | (with_reducible refine s_call ?_)
  | (with_reducible refine s_cons ?_) | (with_reducible refine s_nil ?_) | (with_reducible refine s_test ?_) | (with_reducible refine s_tB ?_) | (with_reducible refine s_not ?_) | (with_reducible refine s_and ?_) | (with_reducible refine s_or ?_)
  | (with_reducible refine s_andV ?_) | (with_reducible refine s_orV ?_) | (with_reducible refine s_notV ?_) | (with_reducible refine s_ifE ?_) | (with_reducible refine s_bl ?_) | (with_reducible refine s_iT ?_) | (with_reducible refine s_iF ?_)
  | (with_reducible refine s_I0 ?_) | (with_reducible refine s_U ?_) | (with_reducible refine s_addI ?_) | (with_reducible refine s_eqI ?_) | (with_reducible refine s_eqS ?_) | (with_reducible refine s_eqB ?_) | (with_reducible refine s_neI ?_) | (with_reducible refine s_neS ?_) | (with_reducible refine s_neB ?_)
  | (with_reducible refine s_tupE ?_) | (with_reducible refine s_lstE ?_))
local macro_rules | `(tactic| walk_at "us") => `(tactic| repeat walk_at "us1")
local macro_rules | `(tactic| walk_at "ulen") => `(tactic| (intro vs H Q E h; repeat' (first | (obtain ⟨e, _⟩ := h; subst e; rfl) | (subst h; rfl) | (refine Or.elim h (fun h => ?_) (fun h => ?_)) | (obtain ⟨_, h⟩ := h))))
local macro_rules | `(tactic| walk_at "uk") => `(tactic| (try dsimp only [cxOf, Cx.suite, Cx.tr]))
local macro_rules | `(tactic| walk_at "us2") => `(tactic| first
  | walk_at "us1" | (with_reducible refine s_dput ?_) | ((with_reducible refine' s_mod ?hc ?_); (case hc => first | decide | assumption | omega))
  | (with_reducible refine s_for ?_) | (with_reducible refine s_lc ?_) | (with_reducible refine s_bm ?_) | (with_reducible refine s_ilt ?_) | (with_reducible refine s_izx ?_) | (with_reducible refine s_ienum ?_) | (with_reducible refine s_din ?_) | (with_reducible refine s_dnotin ?_) | (with_reducible refine s_itl ?_) | (with_reducible refine s_itt ?_) | (with_reducible refine s_its ?_) | (with_reducible refine s_itr ?_) | (with_reducible refine s_itr2 ?_) | (with_reducible refine s_disp ?_) | (with_reducible refine s_prn ?_) | (with_reducible refine s_prc ?_) | (with_reducible refine s_m1 ?_) | (with_reducible refine s_isS ?_) | (with_reducible refine s_um1 ?_) | (with_reducible refine s_isB ?_) | (with_reducible refine s_isn ?_) | (with_reducible refine s_notn ?_) | (with_reducible refine s_jd ?_) | (with_reducible refine s_jn ?_) | (with_reducible refine s_jc ?_) | (with_reducible refine s_fmt ?_) | (with_reducible refine s_gc ?_) | (with_reducible refine s_gnil ?_) | (with_reducible refine s_yes ?_) | (with_reducible refine s_raise ?_)
  | ((with_reducible refine' s_pow ?hc ?_); (case hc => exact ⟨by decide, by decide, by decide⟩)) | (with_reducible refine s_int ?_) | (with_reducible refine s_intB ?_) | (with_reducible refine s_strS ?_) | (with_reducible refine s_abs ?_) | (with_reducible refine s_max ?_) | (with_reducible refine s_min ?_) | (with_reducible refine s_gcd ?_)
  | (with_reducible refine s_chain ?_) | (with_reducible refine s_sl ?_) | (with_reducible refine s_noP ?_) | (with_reducible refine s_part ?_) | (with_reducible refine s_exI ?_) 
  | ((with_reducible refine' s_mulI ?hc ?_); (case hc => first | exact Or.inl (Or.inr ⟨by decide, by decide⟩) | exact Or.inl (Or.inl ⟨by decide, by decide⟩) | exact Or.inl (Or.inl ⟨by omega, by omega⟩) | exact Or.inl (Or.inr ⟨by omega, by omega⟩) | walk_at "umul"))
  | ((with_reducible refine' s_ixT ?hc ?hd ?_); (case hc => assumption); (case hd => rfl))
  | ((with_reducible refine' s_lenL ?hc ?_); (case hc => first | assumption | exact SqL.of (by assumption))) | ((with_reducible refine' s_lenT ?hc ?_); (case hc => first | assumption | exact SqT.of (by assumption)))
  | ((with_reducible refine' s_divP ?hc ?hd ?_); (case hc => first | decide | assumption | omega); (case hd => first | decide +kernel | assumption)))
local macro_rules | `(tactic| walk_at "us") => `(tactic| repeat walk_at "us2")
local macro_rules | `(tactic| walk_at "uj") => `(tactic| ((walk_at "us"); with_reducible refine s_J ?_))
local macro_rules | `(tactic| walk_at "ua") => `(tactic| ((walk_at "us"); repeat ((first | (refine s_iF ?_) | (refine s_iT ?_)); (walk_at "us"))))
local macro_rules | `(tactic| walk_at "ub") => `(tactic| walk_at "ua")
local macro_rules | `(tactic| walk_at "ux1") => `(tactic| first
  | walk_at "us2" | ((with_reducible refine' s_ixL ?hc ?hd ?_); (case hc => first | assumption | exact SqL.of (by assumption)); (case hd => rfl)) | ((with_reducible refine' s_ixT ?hc ?hd ?_); (case hc => exact SqT.of (by assumption)); (case hd => rfl))
  | ((with_reducible refine' s_intS ?hc ?hd ?_); (case hc => assumption); (case hd => assumption)) | ((with_reducible refine' s_lenS ?hc ?_); (case hc => assumption)))
local macro_rules | `(tactic| walk_at "ux") => `(tactic| repeat walk_at "ux1")
local macro_rules | `(tactic| walk_at "uy") => `(tactic| ((walk_at "ux"); repeat ((first | (refine s_iF ?_) | (refine s_iT ?_)); (walk_at "ux"))))
local macro_rules | `(tactic| walk_at "uz0") => `(tactic| first
  | (with_reducible refine s_seq ?_) | (with_reducible refine s_asg ?_) | (with_reducible refine s_gn ?_) | (with_reducible refine s_ret ?_) | (with_reducible refine s_drop ?_) | (with_reducible refine s_if ?_) | (with_reducible refine s_next ?_)
  | (with_reducible refine s_brk ?_) | (with_reducible refine s_cont ?_)
  | ((with_reducible refine' s_var ?hv ?_); (case hv => exact rfl)) | (with_reducible refine s_c ?_) | (with_reducible refine s_op ?_) | (with_reducible refine s_un ?_) | (with_reducible refine s_cb ?_) | (with_reducible refine s_call ?_)
  | (with_reducible refine s_cons ?_) | (with_reducible refine s_nil ?_) | (with_reducible refine s_test ?_) | (with_reducible refine s_tB ?_) | (with_reducible refine s_not ?_) | (with_reducible refine s_and ?_) | (with_reducible refine s_or ?_)
  | (with_reducible refine s_andV ?_) | (with_reducible refine s_orV ?_) | (with_reducible refine s_notV ?_) | (with_reducible refine s_ifE ?_) | (with_reducible refine s_bl ?_) | (with_reducible refine s_iT ?_) | (with_reducible refine s_iF ?_)
  | (with_reducible refine s_I0 ?_) | (with_reducible refine s_U ?_) | (with_reducible refine s_addI ?_) | (with_reducible refine s_eqI ?_) | (with_reducible refine s_eqS ?_) | (with_reducible refine s_eqB ?_) | (with_reducible refine s_neI ?_) | (with_reducible refine s_neS ?_) | (with_reducible refine s_neB ?_))
local macro_rules | `(tactic| walk_at "uz2") => `(tactic| first
  | walk_at "uz0" | (with_reducible refine s_dput ?_) | ((with_reducible refine' s_mod ?hc ?_); (case hc => first | decide | assumption | omega))
  | (with_reducible refine s_for ?_) | (with_reducible refine s_lc ?_) | (with_reducible refine s_bm ?_) | (with_reducible refine s_ilt ?_) | (with_reducible refine s_izx ?_) | (with_reducible refine s_ienum ?_) | (with_reducible refine s_din ?_) | (with_reducible refine s_dnotin ?_) | (with_reducible refine s_itl ?_) | (with_reducible refine s_itt ?_) | (with_reducible refine s_its ?_) | (with_reducible refine s_itr ?_) | (with_reducible refine s_itr2 ?_) | (with_reducible refine s_disp ?_) | (with_reducible refine s_prn ?_) | (with_reducible refine s_prc ?_) | (with_reducible refine s_m1 ?_) | (with_reducible refine s_isS ?_) | (with_reducible refine s_um1 ?_) | (with_reducible refine s_isB ?_) | (with_reducible refine s_isn ?_) | (with_reducible refine s_notn ?_) | (with_reducible refine s_jd ?_) | (with_reducible refine s_jn ?_) | (with_reducible refine s_jc ?_) | (with_reducible refine s_fmt ?_) | (with_reducible refine s_gc ?_) | (with_reducible refine s_gnil ?_) | (with_reducible refine s_yes ?_) | (with_reducible refine s_raise ?_)
  | ((with_reducible refine' s_pow ?hc ?_); (case hc => exact ⟨by decide, by decide, by decide⟩)) | (with_reducible refine s_int ?_) | (with_reducible refine s_intB ?_) | (with_reducible refine s_strS ?_) | (with_reducible refine s_abs ?_) | (with_reducible refine s_max ?_) | (with_reducible refine s_min ?_) | (with_reducible refine s_gcd ?_)
  | (with_reducible refine s_chain ?_) | (with_reducible refine s_sl ?_) | (with_reducible refine s_noP ?_) | (with_reducible refine s_part ?_) | (with_reducible refine s_exI ?_) 
  | ((with_reducible refine' s_mulI ?hc ?_); (case hc => first | exact Or.inl (Or.inr ⟨by decide, by decide⟩) | exact Or.inl (Or.inl ⟨by decide, by decide⟩) | exact Or.inl (Or.inl ⟨by omega, by omega⟩) | exact Or.inl (Or.inr ⟨by omega, by omega⟩) | walk_at "umul"))
  | ((with_reducible refine' s_ixT ?hc ?hd ?_); (case hc => assumption); (case hd => rfl))
  | ((with_reducible refine' s_lenL ?hc ?_); (case hc => first | assumption | exact SqL.of (by assumption))) | ((with_reducible refine' s_lenT ?hc ?_); (case hc => first | assumption | exact SqT.of (by assumption)))
  | ((with_reducible refine' s_divP ?hc ?hd ?_); (case hc => first | decide | assumption | omega); (case hd => first | decide +kernel | assumption)))
local macro_rules | `(tactic| walk_at "uz1") => `(tactic| first
  | walk_at "uz2" | ((with_reducible refine' s_ixL ?hc ?hd ?_); (case hc => first | assumption | exact SqL.of (by assumption)); (case hd => rfl)) | ((with_reducible refine' s_ixT ?hc ?hd ?_); (case hc => exact SqT.of (by assumption)); (case hd => rfl))
  | ((with_reducible refine' s_intS ?hc ?hd ?_); (case hc => assumption); (case hd => assumption)) | ((with_reducible refine' s_lenS ?hc ?_); (case hc => assumption)))
local macro_rules | `(tactic| walk_at "uz") => `(tactic| ((repeat walk_at "uz1"); repeat ((first | (refine s_iF ?_) | (refine s_iT ?_)); (repeat walk_at "uz1"))))
section
variable {P : Program} {w : World} {K : PySem.W.Frag} {mg : Str → Option Value} {base : Heap}
variable {cE cH cU cW : Addr}
theorem ok_l_long_texts (T : Tp P K mg cE cH cU cW)
    {f : Addr} {fd : FuncData} {dvs : List V} (F : FunD K "_law_long_texts" "_law_long_texts" (defArgs s_l_long_texts) (defBody s_l_long_texts) (defScope s_l_long_texts) dvs [] f fd) : FnG P w K mg base 1 f fd P_l_long_texts (spLongTexts) := by
  refine fng F sc_l_long_texts (by walk_at "ulen") (fun cdv A outer s H vs Q E hr0 hg0 h => ?_)
  have hr : Rm 0 (A.deeper (envOfC "_law_long_texts" (defScope s_l_long_texts) s.heap.objs.size f cdv)) := ⟨hr0, hg0⟩
  have nd : N_l_long_texts.Nodup := sc_l_long_texts.nd
  obtain ⟨rfl, k⟩ := h
  refine ⟨_, (pss_cons (ps_set (i := 0) nd rfl (Or.inr rfl) (pe_op op_uAdd pe_str (pe_op op_uMul pe_str pe_int)))
    (pss_one (ps_ret (pe_lc (own := [("_law_one", 1)]) (g := gName 1) (by rfl) nd (pi_list (pe_lst (pa_cons pe_str (pa_cons pe_str (pa_cons pe_str (pa_cons pe_str (pa_cons pe_str (pa_cons pe_str (pa_cons pe_str (pa_cons pe_str pa_nil)))))))))) (blkOk_by (own := [("_law_one", 1)]) (N := N_l_long_texts) (sc := defScope s_l_long_texts) (by decide +kernel)) (fun s_ H_ C_ cl_ fp_ => pg_name (i := 1) nd rfl (Or.inl rfl)) (fun s_ H_ C_ cl_ fp_ => pts_nil) (fun s_ H_ C_ cl_ fp_ => (pe_op (op_uAddK (K := K) rfl) (pv 0) (pv 1))))))), ?_⟩
  walk_at "uk"
  walk_at "uz"
  refine s_mulS ⟨by decide +kernel, fun _ _ => by decide +kernel, fun _ _ => by decide +kernel⟩ ?_
  have lm : (Txt.mul ("/a*a" : Str) 49).length = 196 := by decide +kernel
  generalize Txt.mul ("/a*a" : Str) 49 = fr at lm
  have o1 : (("a" : Str)).length = 1 := rfl
  refine s_addS (by rw [o1, lm]; decide) ?_
  have lf : (("a" : Str) ++ fr).length ≤ 200 := by rw [app_len, o1, lm]; decide
  generalize ("a" : Str) ++ fr = front at lf
  walk_at "uz"
  refine s_txl (K := K) (by decide +kernel) (by decide) fun c0 z0 H0 n0 e0 f0 l0 k0 => ?_
  have dl : (∀ z ∈ z0, z.length ≤ 100) := fun z hz => Nat.le_trans (l0 z hz) (by decide +kernel)
  refine s_txc (.of f0) (by omega) (d := 200 + 100) (by decide +kernel) (fun v => rfl) (fun z hz => ?_) fun r y G m x g h i => ?_
  · exact txe_add (txv rfl lf) (txv rfl (dl z hz))
  exact k r y G (fun z hz => by have := h z hz; omega) (by omega) (e0.tr x) g
end
end Lw

set_option Elab.async false
set_option linter.all false
set_option maxRecDepth 100000
set_option maxHeartbeats 4000000
namespace Lw
open PySem PySem.Spec L2 Uv
open PyProof.Rows hiding St
local macro_rules | `(tactic| walk_at "umul") => `(tactic| fail)
local macro_rules | `(tactic| walk_at "us1") => `(tactic| first
  | (with_reducible refine s_seq ?_) | (with_reducible refine s_asg ?_) | (with_reducible refine s_gn ?_) | (with_reducible refine s_ret ?_) | (with_reducible refine s_drop ?_) | (with_reducible refine s_if ?_) | (with_reducible refine s_next ?_)
  | (with_reducible refine s_brk ?_) | (with_reducible refine s_cont ?_)
  | ((with_reducible refine' s_var ?hv ?_); (case hv => exact rfl)) | (with_reducible refine s_c ?_) | (with_reducible refine s_op ?_) | (with_reducible refine s_un ?_) | (with_reducible refine s_cb ?_) | (with_reducible refine s_call ?_)
  | (with_reducible refine s_cons ?_) | (with_reducible refine s_nil ?_) | (with_reducible refine s_test ?_) | (with_reducible refine s_tB ?_) | (with_reducible refine s_not ?_) | (with_reducible refine s_and ?_) | (with_reducible refine s_or ?_)
  | (with_reducible refine s_andV ?_) | (with_reducible refine s_orV ?_) | (with_reducible refine s_notV ?_) | (with_reducible refine s_ifE ?_) | (with_reducible refine s_bl ?_) | (with_reducible refine s_iT ?_) | (with_reducible refine s_iF ?_)
  | (with_reducible refine s_I0 ?_) | (with_reducible refine s_U ?_) | (with_reducible refine s_addI ?_) | (with_reducible refine s_eqI ?_) | (with_reducible refine s_eqS ?_) | (with_reducible refine s_eqB ?_) | (with_reducible refine s_neI ?_) | (with_reducible refine s_neS ?_) | (with_reducible refine s_neB ?_)
  | (with_reducible refine s_tupE ?_) | (with_reducible refine s_lstE ?_))
local macro_rules | `(tactic| walk_at "us") => `(tactic| repeat walk_at "us1")
local macro_rules | `(tactic| walk_at "ulen") => `(tactic| (intro vs H Q E h; repeat' (first | (obtain ⟨e, _⟩ := h; subst e; rfl) | (subst h; rfl) | (refine Or.elim h (fun h => ?_) (fun h => ?_)) | (obtain ⟨_, h⟩ := h))))
local macro_rules | `(tactic| walk_at "uk") => `(tactic| (try dsimp only [cxOf, Cx.suite, Cx.tr]))
local macro_rules | `(tactic| walk_at "us2") => `(tactic| first
  | walk_at "us1" | (with_reducible refine s_dput ?_) | ((with_reducible refine' s_mod ?hc ?_); (case hc => first | decide | assumption | omega))
  | (with_reducible refine s_for ?_) | (with_reducible refine s_lc ?_) | (with_reducible refine s_bm ?_) | (with_reducible refine s_ilt ?_) | (with_reducible refine s_izx ?_) | (with_reducible refine s_ienum ?_) | (with_reducible refine s_din ?_) | (with_reducible refine s_dnotin ?_) | (with_reducible refine s_itl ?_) | (with_reducible refine s_itt ?_) | (with_reducible refine s_its ?_) | (with_reducible refine s_itr ?_) | (with_reducible refine s_itr2 ?_) | (with_reducible refine s_disp ?_) | (with_reducible refine s_prn ?_) | (with_reducible refine s_prc ?_) | (with_reducible refine s_m1 ?_) | (with_reducible refine s_isS ?_) | (with_reducible refine s_um1 ?_) | (with_reducible refine s_isB ?_) | (with_reducible refine s_isn ?_) | (with_reducible refine s_notn ?_) | (with_reducible refine s_jd ?_) | (with_reducible refine s_jn ?_) | (with_reducible refine s_jc ?_) | (with_reducible refine s_fmt ?_) | (with_reducible refine s_gc ?_) | (with_reducible refine s_gnil ?_) | (with_reducible refine s_yes ?_) | (with_reducible refine s_raise ?_)
  | ((with_reducible refine' s_pow ?hc ?_); (case hc => exact ⟨by decide, by decide, by decide⟩)) | (with_reducible refine s_int ?_) | (with_reducible refine s_intB ?_) | (with_reducible refine s_strS ?_) | (with_reducible refine s_abs ?_) | (with_reducible refine s_max ?_) | (with_reducible refine s_min ?_) | (with_reducible refine s_gcd ?_)
  | (with_reducible refine s_chain ?_) | (with_reducible refine s_sl ?_) | (with_reducible refine s_noP ?_) | (with_reducible refine s_part ?_) | (with_reducible refine s_exI ?_) 
  | ((with_reducible refine' s_mulI ?hc ?_); (case hc => first | exact Or.inl (Or.inr ⟨by decide, by decide⟩) | exact Or.inl (Or.inl ⟨by decide, by decide⟩) | exact Or.inl (Or.inl ⟨by omega, by omega⟩) | exact Or.inl (Or.inr ⟨by omega, by omega⟩) | walk_at "umul"))
  | ((with_reducible refine' s_ixT ?hc ?hd ?_); (case hc => assumption); (case hd => rfl))
  | ((with_reducible refine' s_lenL ?hc ?_); (case hc => first | assumption | exact SqL.of (by assumption))) | ((with_reducible refine' s_lenT ?hc ?_); (case hc => first | assumption | exact SqT.of (by assumption)))
  | ((with_reducible refine' s_divP ?hc ?hd ?_); (case hc => first | decide | assumption | omega); (case hd => first | decide +kernel | assumption)))
local macro_rules | `(tactic| walk_at "us") => `(tactic| repeat walk_at "us2")
local macro_rules | `(tactic| walk_at "uj") => `(tactic| ((walk_at "us"); with_reducible refine s_J ?_))
local macro_rules | `(tactic| walk_at "ua") => `(tactic| ((walk_at "us"); repeat ((first | (refine s_iF ?_) | (refine s_iT ?_)); (walk_at "us"))))
local macro_rules | `(tactic| walk_at "ub") => `(tactic| walk_at "ua")
local macro_rules | `(tactic| walk_at "ux1") => `(tactic| first
  | walk_at "us2" | ((with_reducible refine' s_ixL ?hc ?hd ?_); (case hc => first | assumption | exact SqL.of (by assumption)); (case hd => rfl)) | ((with_reducible refine' s_ixT ?hc ?hd ?_); (case hc => exact SqT.of (by assumption)); (case hd => rfl))
  | ((with_reducible refine' s_intS ?hc ?hd ?_); (case hc => assumption); (case hd => assumption)) | ((with_reducible refine' s_lenS ?hc ?_); (case hc => assumption)))
local macro_rules | `(tactic| walk_at "ux") => `(tactic| repeat walk_at "ux1")
local macro_rules | `(tactic| walk_at "uy") => `(tactic| ((walk_at "ux"); repeat ((first | (refine s_iF ?_) | (refine s_iT ?_)); (walk_at "ux"))))
local macro_rules | `(tactic| walk_at "uz0") => `(tactic| first
  | (with_reducible refine s_seq ?_) | (with_reducible refine s_asg ?_) | (with_reducible refine s_gn ?_) | (with_reducible refine s_ret ?_) | (with_reducible refine s_drop ?_) | (with_reducible refine s_if ?_) | (with_reducible refine s_next ?_)
  | (with_reducible refine s_brk ?_) | (with_reducible refine s_cont ?_)
  | ((with_reducible refine' s_var ?hv ?_); (case hv => exact rfl)) | (with_reducible refine s_c ?_) | (with_reducible refine s_op ?_) | (with_reducible refine s_un ?_) | (with_reducible refine s_cb ?_) | (with_reducible refine s_call ?_)
  | (with_reducible refine s_cons ?_) | (with_reducible refine s_nil ?_) | (with_reducible refine s_test ?_) | (with_reducible refine s_tB ?_) | (with_reducible refine s_not ?_) | (with_reducible refine s_and ?_) | (with_reducible refine s_or ?_)
  | (with_reducible refine s_andV ?_) | (with_reducible refine s_orV ?_) | (with_reducible refine s_notV ?_) | (with_reducible refine s_ifE ?_) | (with_reducible refine s_bl ?_) | (with_reducible refine s_iT ?_) | (with_reducible refine s_iF ?_)
  | (with_reducible refine s_I0 ?_) | (with_reducible refine s_U ?_) | (with_reducible refine s_addI ?_) | (with_reducible refine s_eqI ?_) | (with_reducible refine s_eqS ?_) | (with_reducible refine s_eqB ?_) | (with_reducible refine s_neI ?_) | (with_reducible refine s_neS ?_) | (with_reducible refine s_neB ?_))
local macro_rules | `(tactic| walk_at "uz2") => `(tactic| first
  | walk_at "uz0" | (with_reducible refine s_dput ?_) | ((with_reducible refine' s_mod ?hc ?_); (case hc => first | decide | assumption | omega))
  | (with_reducible refine s_for ?_) | (with_reducible refine s_lc ?_) | (with_reducible refine s_bm ?_) | (with_reducible refine s_ilt ?_) | (with_reducible refine s_izx ?_) | (with_reducible refine s_ienum ?_) | (with_reducible refine s_din ?_) | (with_reducible refine s_dnotin ?_) | (with_reducible refine s_itl ?_) | (with_reducible refine s_itt ?_) | (with_reducible refine s_its ?_) | (with_reducible refine s_itr ?_) | (with_reducible refine s_itr2 ?_) | (with_reducible refine s_disp ?_) | (with_reducible refine s_prn ?_) | (with_reducible refine s_prc ?_) | (with_reducible refine s_m1 ?_) | (with_reducible refine s_isS ?_) | (with_reducible refine s_um1 ?_) | (with_reducible refine s_isB ?_) | (with_reducible refine s_isn ?_) | (with_reducible refine s_notn ?_) | (with_reducible refine s_jd ?_) | (with_reducible refine s_jn ?_) | (with_reducible refine s_jc ?_) | (with_reducible refine s_fmt ?_) | (with_reducible refine s_gc ?_) | (with_reducible refine s_gnil ?_) | (with_reducible refine s_yes ?_) | (with_reducible refine s_raise ?_)
  | ((with_reducible refine' s_pow ?hc ?_); (case hc => exact ⟨by decide, by decide, by decide⟩)) | (with_reducible refine s_int ?_) | (with_reducible refine s_intB ?_) | (with_reducible refine s_strS ?_) | (with_reducible refine s_abs ?_) | (with_reducible refine s_max ?_) | (with_reducible refine s_min ?_) | (with_reducible refine s_gcd ?_)
  | (with_reducible refine s_chain ?_) | (with_reducible refine s_sl ?_) | (with_reducible refine s_noP ?_) | (with_reducible refine s_part ?_) | (with_reducible refine s_exI ?_) 
  | ((with_reducible refine' s_mulI ?hc ?_); (case hc => first | exact Or.inl (Or.inr ⟨by decide, by decide⟩) | exact Or.inl (Or.inl ⟨by decide, by decide⟩) | exact Or.inl (Or.inl ⟨by omega, by omega⟩) | exact Or.inl (Or.inr ⟨by omega, by omega⟩) | walk_at "umul"))
  | ((with_reducible refine' s_ixT ?hc ?hd ?_); (case hc => assumption); (case hd => rfl))
  | ((with_reducible refine' s_lenL ?hc ?_); (case hc => first | assumption | exact SqL.of (by assumption))) | ((with_reducible refine' s_lenT ?hc ?_); (case hc => first | assumption | exact SqT.of (by assumption)))
  | ((with_reducible refine' s_divP ?hc ?hd ?_); (case hc => first | decide | assumption | omega); (case hd => first | decide +kernel | assumption)))
local macro_rules | `(tactic| walk_at "uz1") => `(tactic| first
  | walk_at "uz2" | ((with_reducible refine' s_ixL ?hc ?hd ?_); (case hc => first | assumption | exact SqL.of (by assumption)); (case hd => rfl)) | ((with_reducible refine' s_ixT ?hc ?hd ?_); (case hc => exact SqT.of (by assumption)); (case hd => rfl))
  | ((with_reducible refine' s_intS ?hc ?hd ?_); (case hc => assumption); (case hd => assumption)) | ((with_reducible refine' s_lenS ?hc ?_); (case hc => assumption)))
local macro_rules | `(tactic| walk_at "uz") => `(tactic| ((repeat walk_at "uz1"); repeat ((first | (refine s_iF ?_) | (refine s_iT ?_)); (repeat walk_at "uz1"))))
section
variable {P : Program} {w : World} {K : PySem.W.Frag} {mg : Str → Option Value} {base : Heap}
variable {cE cH cU cW : Addr}
theorem ok_l_multiplied_told (T : Tp P K mg cE cH cU cW)
    (c_divided : Cal P w K mg base 3 "divided" P_divided [] (spMul K cH (· - ·)))
    (c_multiplied : Cal P w K mg base 3 "multiplied" P_multiplied [] (spMul K cH (· + ·)))
    {f : Addr} {fd : FuncData} {dvs : List V} (F : FunD K "_law_multiplied_told" "_law_multiplied_told" (defArgs s_l_multiplied_told) (defBody s_l_multiplied_told) (defScope s_l_multiplied_told) dvs [] f fd) : FnG P w K mg base 4 f fd P_l_multiplied_told (spMulTold K) := by
  refine fng F sc_l_multiplied_told (by walk_at "ulen") (fun cdv A outer s H vs Q E hr0 hg0 h => ?_)
  have hr : Rm 3 (A.deeper (envOfC "_law_multiplied_told" (defScope s_l_multiplied_told) s.heap.objs.size f cdv)) := ⟨hr0, hg0⟩
  have nd : N_l_multiplied_told.Nodup := sc_l_multiplied_told.nd
  have tk : Takes (cxOf (L2.CX P w) P w K mg base N_l_multiplied_told "_law_multiplied_told" (defScope s_l_multiplied_told) f cdv A outer s H E) (fun cls d _ H => E cls d H) := takes_of rfl rfl rfl rfl
  obtain ⟨a, b, way, xs, ys, rfl, ha, hb, hl, h100, k⟩ := h
  refine ⟨_, (pss_one (ps_tryC tk (fun W_ pn_ xe_ tkb pob =>
      (pss_one (ps_ret (pe_tup (pa_cons pe_str (pa_cons (pe_ifExp (pt_cmpR (op_uEqK (K := K) rfl hr.r.units) (pv 2) pe_int (nomark _)) (pe_c c_multiplied (hr.mono (by decide)) (fun σ => passAt tkb σ) (pa_cons (pv 0) (pa_cons (pv 1) pa_nil))) (pe_c c_divided (hr.mono (by decide)) (fun σ => passAt tkb σ) (pa_cons (pv 0) (pa_cons (pv 1) pa_nil)))) pa_nil))))))
      (ClOk.named (i := 3) ⟨by rfl, by decide, Or.inl T.g_TooHigh⟩ nd rfl rfl
      (fun a_ oe_ cls_ d_ pn_ hz hf => (pss_cons (ps_if (PW.pt (pw_and (pt_val (pe_callB (call_isX hz hf) (by rfl) T.isinstance b_isinstance (pa_cons (pv 3) (pa_cons (pe_bltn (v := .ty "ValueError") (by rfl) T.ValueError b_ValueError rfl) pa_nil)))) (pw_and (pt_val (pe_callB (call_isX hz hf) (by rfl) T.isinstance b_isinstance (pa_cons (pv 3) (pa_cons (pe_gR T.g_EllError) pa_nil)))) (pw_and1 (pt_not (pt_val (pe_callB (call_isX hz hf) (by rfl) T.isinstance b_isinstance (pa_cons (pv 3) (pa_cons (pe_gR T.g_Unknown) pa_nil))))))))) (pss_one (ps_ret (pe_tup (pa_cons pe_str (pa_cons (pe_xf T.xf_TooHigh T.xn_TooHigh_dimension hz hf (pv 3)) pa_nil))))) pss_nil)
    (pss_one (ps_ret (pe_tup (pa_cons pe_str (pa_cons pe_non pa_nil)))))))
      (ClOk.bare ⟨by rfl, by decide, Or.inl T.g_EllError⟩
      (fun a_ oe_ cls_ d_ pn_ hz hf => (pss_one (ps_ret (pe_tup (pa_cons pe_str (pa_cons pe_non pa_nil))))))
      ClOk.nil)))), ?_⟩
  walk_at "uk"
  walk_at "uy"
  refine s_ite (fun hw => ?_) (fun hw => ?_)
  · have ew : (fun x y : Int => if way = 0 then x + y else x - y) = fun x y => x + y := by funext x y; rw [if_pos hw]
    rw [ew] at k
    walk_at "uy"
    refine ⟨a, b, xs, ys, rfl, ha, hb, hl, h100, fun hr v H1 e1 hv => ?_, fun hr v e H1 e1 hv he => ?_⟩
    · walk_at "uy"
      refine s_szN (Nat.le_of_ble_eq_true rfl) fun q hq => ?_
      obtain ⟨r, rfl, hr2⟩ := hv
      refine k q _ _ (e1.tr (exN hq)) ⟨r, rfl, Ex.st hr2 (exN hq)⟩ ?_
      rw [if_pos hr]
      exact upd_same
    · refine s_hit T.mHH fun a ha => ?_
      dsimp only [setO, endO]
      walk_at "us"
      refine s_isXt he T.eH T.oHV ?_
      walk_at "us"
      refine s_isXr he T.eH T.oHE ?_
      walk_at "us"
      refine s_isXr he T.eH T.oHU ?_
      walk_at "ua"
      refine s_xfV rfl he rfl ?_
      walk_at "us"
      refine s_szN (Nat.le_of_ble_eq_true rfl) fun q hq => ?_
      obtain ⟨r, rfl, hr2⟩ := hv
      refine k q _ _ (e1.tr (exN hq)) ⟨r, rfl, Ex.st hr2 (exN hq)⟩ ?_
      rw [if_neg (by rw [hr]; exact Bool.false_ne_true)]
      exact upd_same
  · have ew : (fun x y : Int => if way = 0 then x + y else x - y) = fun x y => x - y := by funext x y; rw [if_neg hw]
    rw [ew] at k
    walk_at "uy"
    refine ⟨a, b, xs, ys, rfl, ha, hb, hl, h100, fun hr v H1 e1 hv => ?_, fun hr v e H1 e1 hv he => ?_⟩
    · walk_at "uy"
      refine s_szN (Nat.le_of_ble_eq_true rfl) fun q hq => ?_
      obtain ⟨r, rfl, hr2⟩ := hv
      refine k q _ _ (e1.tr (exN hq)) ⟨r, rfl, Ex.st hr2 (exN hq)⟩ ?_
      rw [if_pos hr]
      exact upd_same
    · refine s_hit T.mHH fun a ha => ?_
      dsimp only [setO, endO]
      walk_at "us"
      refine s_isXt he T.eH T.oHV ?_
      walk_at "us"
      refine s_isXr he T.eH T.oHE ?_
      walk_at "us"
      refine s_isXr he T.eH T.oHU ?_
      walk_at "ua"
      refine s_xfV rfl he rfl ?_
      walk_at "us"
      refine s_szN (Nat.le_of_ble_eq_true rfl) fun q hq => ?_
      obtain ⟨r, rfl, hr2⟩ := hv
      refine k q _ _ (e1.tr (exN hq)) ⟨r, rfl, Ex.st hr2 (exN hq)⟩ ?_
      rw [if_neg (by rw [hr]; exact Bool.false_ne_true)]
      exact upd_same
end
end Lw

set_option Elab.async false
set_option linter.all false
set_option maxRecDepth 100000
set_option maxHeartbeats 4000000
namespace Lw
open PySem PySem.Spec L2 Uv
open PyProof.Rows hiding St
local macro_rules | `(tactic| walk_at "umul") => `(tactic| fail)
local macro_rules | `(tactic| walk_at "us1") => `(tactic| first
  | (with_reducible refine s_seq ?_) | (with_reducible refine s_asg ?_) | (with_reducible refine s_gn ?_) | (with_reducible refine s_ret ?_) | (with_reducible refine s_drop ?_) | (with_reducible refine s_if ?_) | (with_reducible refine s_next ?_)
  | (with_reducible refine s_brk ?_) | (with_reducible refine s_cont ?_)
  | ((with_reducible refine' s_var ?hv ?_); (case hv => exact rfl)) | (with_reducible refine s_c ?_) | (with_reducible refine s_op ?_) | (with_reducible refine s_un ?_) | (with_reducible refine s_cb ?_) | (with_reducible refine s_call ?_)
  | (with_reducible refine s_cons ?_) | (with_reducible refine s_nil ?_) | (with_reducible refine s_test ?_) | (with_reducible refine s_tB ?_) | (with_reducible refine s_not ?_) | (with_reducible refine s_and ?_) | (with_reducible refine s_or ?_)
  | (with_reducible refine s_andV ?_) | (with_reducible refine s_orV ?_) | (with_reducible refine s_notV ?_) | (with_reducible refine s_ifE ?_) | (with_reducible refine s_bl ?_) | (with_reducible refine s_iT ?_) | (with_reducible refine s_iF ?_)
  | (with_reducible refine s_I0 ?_) | (with_reducible refine s_U ?_) | (with_reducible refine s_addI ?_) | (with_reducible refine s_eqI ?_) | (with_reducible refine s_eqS ?_) | (with_reducible refine s_eqB ?_) | (with_reducible refine s_neI ?_) | (with_reducible refine s_neS ?_) | (with_reducible refine s_neB ?_)
  | (with_reducible refine s_tupE ?_) | (with_reducible refine s_lstE ?_))
local macro_rules | `(tactic| walk_at "us") => `(tactic| repeat walk_at "us1")
local macro_rules | `(tactic| walk_at "ulen") => `(tactic| (intro vs H Q E h; repeat' (first | (obtain ⟨e, _⟩ := h; subst e; rfl) | (subst h; rfl) | (refine Or.elim h (fun h => ?_) (fun h => ?_)) | (obtain ⟨_, h⟩ := h))))
local macro_rules | `(tactic| walk_at "uk") => `(tactic| (try dsimp only [cxOf, Cx.suite, Cx.tr]))
local macro_rules | `(tactic| walk_at "us2") => `(tactic| first
  | walk_at "us1" | (with_reducible refine s_dput ?_) | ((with_reducible refine' s_mod ?hc ?_); (case hc => first | decide | assumption | omega))
  | (with_reducible refine s_for ?_) | (with_reducible refine s_lc ?_) | (with_reducible refine s_bm ?_) | (with_reducible refine s_ilt ?_) | (with_reducible refine s_izx ?_) | (with_reducible refine s_ienum ?_) | (with_reducible refine s_din ?_) | (with_reducible refine s_dnotin ?_) | (with_reducible refine s_itl ?_) | (with_reducible refine s_itt ?_) | (with_reducible refine s_its ?_) | (with_reducible refine s_itr ?_) | (with_reducible refine s_itr2 ?_) | (with_reducible refine s_disp ?_) | (with_reducible refine s_prn ?_) | (with_reducible refine s_prc ?_) | (with_reducible refine s_m1 ?_) | (with_reducible refine s_isS ?_) | (with_reducible refine s_um1 ?_) | (with_reducible refine s_isB ?_) | (with_reducible refine s_isn ?_) | (with_reducible refine s_notn ?_) | (with_reducible refine s_jd ?_) | (with_reducible refine s_jn ?_) | (with_reducible refine s_jc ?_) | (with_reducible refine s_fmt ?_) | (with_reducible refine s_gc ?_) | (with_reducible refine s_gnil ?_) | (with_reducible refine s_yes ?_) | (with_reducible refine s_raise ?_)
  | ((with_reducible refine' s_pow ?hc ?_); (case hc => exact ⟨by decide, by decide, by decide⟩)) | (with_reducible refine s_int ?_) | (with_reducible refine s_intB ?_) | (with_reducible refine s_strS ?_) | (with_reducible refine s_abs ?_) | (with_reducible refine s_max ?_) | (with_reducible refine s_min ?_) | (with_reducible refine s_gcd ?_)
  | (with_reducible refine s_chain ?_) | (with_reducible refine s_sl ?_) | (with_reducible refine s_noP ?_) | (with_reducible refine s_part ?_) | (with_reducible refine s_exI ?_) 
  | ((with_reducible refine' s_mulI ?hc ?_); (case hc => first | exact Or.inl (Or.inr ⟨by decide, by decide⟩) | exact Or.inl (Or.inl ⟨by decide, by decide⟩) | exact Or.inl (Or.inl ⟨by omega, by omega⟩) | exact Or.inl (Or.inr ⟨by omega, by omega⟩) | walk_at "umul"))
  | ((with_reducible refine' s_ixT ?hc ?hd ?_); (case hc => assumption); (case hd => rfl))
  | ((with_reducible refine' s_lenL ?hc ?_); (case hc => first | assumption | exact SqL.of (by assumption))) | ((with_reducible refine' s_lenT ?hc ?_); (case hc => first | assumption | exact SqT.of (by assumption)))
  | ((with_reducible refine' s_divP ?hc ?hd ?_); (case hc => first | decide | assumption | omega); (case hd => first | decide +kernel | assumption)))
local macro_rules | `(tactic| walk_at "us") => `(tactic| repeat walk_at "us2")
local macro_rules | `(tactic| walk_at "uj") => `(tactic| ((walk_at "us"); with_reducible refine s_J ?_))
local macro_rules | `(tactic| walk_at "ua") => `(tactic| ((walk_at "us"); repeat ((first | (refine s_iF ?_) | (refine s_iT ?_)); (walk_at "us"))))
local macro_rules | `(tactic| walk_at "ub") => `(tactic| walk_at "ua")
local macro_rules | `(tactic| walk_at "ux1") => `(tactic| first
  | walk_at "us2" | ((with_reducible refine' s_ixL ?hc ?hd ?_); (case hc => first | assumption | exact SqL.of (by assumption)); (case hd => rfl)) | ((with_reducible refine' s_ixT ?hc ?hd ?_); (case hc => exact SqT.of (by assumption)); (case hd => rfl))
  | ((with_reducible refine' s_intS ?hc ?hd ?_); (case hc => assumption); (case hd => assumption)) | ((with_reducible refine' s_lenS ?hc ?_); (case hc => assumption)))
local macro_rules | `(tactic| walk_at "ux") => `(tactic| repeat walk_at "ux1")
local macro_rules | `(tactic| walk_at "uy") => `(tactic| ((walk_at "ux"); repeat ((first | (refine s_iF ?_) | (refine s_iT ?_)); (walk_at "ux"))))
local macro_rules | `(tactic| walk_at "uz0") => `(tactic| first
  | (with_reducible refine s_seq ?_) | (with_reducible refine s_asg ?_) | (with_reducible refine s_gn ?_) | (with_reducible refine s_ret ?_) | (with_reducible refine s_drop ?_) | (with_reducible refine s_if ?_) | (with_reducible refine s_next ?_)
  | (with_reducible refine s_brk ?_) | (with_reducible refine s_cont ?_)
  | ((with_reducible refine' s_var ?hv ?_); (case hv => exact rfl)) | (with_reducible refine s_c ?_) | (with_reducible refine s_op ?_) | (with_reducible refine s_un ?_) | (with_reducible refine s_cb ?_) | (with_reducible refine s_call ?_)
  | (with_reducible refine s_cons ?_) | (with_reducible refine s_nil ?_) | (with_reducible refine s_test ?_) | (with_reducible refine s_tB ?_) | (with_reducible refine s_not ?_) | (with_reducible refine s_and ?_) | (with_reducible refine s_or ?_)
  | (with_reducible refine s_andV ?_) | (with_reducible refine s_orV ?_) | (with_reducible refine s_notV ?_) | (with_reducible refine s_ifE ?_) | (with_reducible refine s_bl ?_) | (with_reducible refine s_iT ?_) | (with_reducible refine s_iF ?_)
  | (with_reducible refine s_I0 ?_) | (with_reducible refine s_U ?_) | (with_reducible refine s_addI ?_) | (with_reducible refine s_eqI ?_) | (with_reducible refine s_eqS ?_) | (with_reducible refine s_eqB ?_) | (with_reducible refine s_neI ?_) | (with_reducible refine s_neS ?_) | (with_reducible refine s_neB ?_))
local macro_rules | `(tactic| walk_at "uz2") => `(tactic| first
  | walk_at "uz0" | (with_reducible refine s_dput ?_) | ((with_reducible refine' s_mod ?hc ?_); (case hc => first | decide | assumption | omega))
  | (with_reducible refine s_for ?_) | (with_reducible refine s_lc ?_) | (with_reducible refine s_bm ?_) | (with_reducible refine s_ilt ?_) | (with_reducible refine s_izx ?_) | (with_reducible refine s_ienum ?_) | (with_reducible refine s_din ?_) | (with_reducible refine s_dnotin ?_) | (with_reducible refine s_itl ?_) | (with_reducible refine s_itt ?_) | (with_reducible refine s_its ?_) | (with_reducible refine s_itr ?_) | (with_reducible refine s_itr2 ?_) | (with_reducible refine s_disp ?_) | (with_reducible refine s_prn ?_) | (with_reducible refine s_prc ?_) | (with_reducible refine s_m1 ?_) | (with_reducible refine s_isS ?_) | (with_reducible refine s_um1 ?_) | (with_reducible refine s_isB ?_) | (with_reducible refine s_isn ?_) | (with_reducible refine s_notn ?_) | (with_reducible refine s_jd ?_) | (with_reducible refine s_jn ?_) | (with_reducible refine s_jc ?_) | (with_reducible refine s_fmt ?_) | (with_reducible refine s_gc ?_) | (with_reducible refine s_gnil ?_) | (with_reducible refine s_yes ?_) | (with_reducible refine s_raise ?_)
  | ((with_reducible refine' s_pow ?hc ?_); (case hc => exact ⟨by decide, by decide, by decide⟩)) | (with_reducible refine s_int ?_) | (with_reducible refine s_intB ?_) | (with_reducible refine s_strS ?_) | (with_reducible refine s_abs ?_) | (with_reducible refine s_max ?_) | (with_reducible refine s_min ?_) | (with_reducible refine s_gcd ?_)
  | (with_reducible refine s_chain ?_) | (with_reducible refine s_sl ?_) | (with_reducible refine s_noP ?_) | (with_reducible refine s_part ?_) | (with_reducible refine s_exI ?_) 
  | ((with_reducible refine' s_mulI ?hc ?_); (case hc => first | exact Or.inl (Or.inr ⟨by decide, by decide⟩) | exact Or.inl (Or.inl ⟨by decide, by decide⟩) | exact Or.inl (Or.inl ⟨by omega, by omega⟩) | exact Or.inl (Or.inr ⟨by omega, by omega⟩) | walk_at "umul"))
  | ((with_reducible refine' s_ixT ?hc ?hd ?_); (case hc => assumption); (case hd => rfl))
  | ((with_reducible refine' s_lenL ?hc ?_); (case hc => first | assumption | exact SqL.of (by assumption))) | ((with_reducible refine' s_lenT ?hc ?_); (case hc => first | assumption | exact SqT.of (by assumption)))
  | ((with_reducible refine' s_divP ?hc ?hd ?_); (case hc => first | decide | assumption | omega); (case hd => first | decide +kernel | assumption)))
local macro_rules | `(tactic| walk_at "uz1") => `(tactic| first
  | walk_at "uz2" | ((with_reducible refine' s_ixL ?hc ?hd ?_); (case hc => first | assumption | exact SqL.of (by assumption)); (case hd => rfl)) | ((with_reducible refine' s_ixT ?hc ?hd ?_); (case hc => exact SqT.of (by assumption)); (case hd => rfl))
  | ((with_reducible refine' s_intS ?hc ?hd ?_); (case hc => assumption); (case hd => assumption)) | ((with_reducible refine' s_lenS ?hc ?_); (case hc => assumption)))
local macro_rules | `(tactic| walk_at "uz") => `(tactic| ((repeat walk_at "uz1"); repeat ((first | (refine s_iF ?_) | (refine s_iT ?_)); (repeat walk_at "uz1"))))
section
variable {P : Program} {w : World} {K : PySem.W.Frag} {mg : Str → Option Value} {base : Heap}
variable {cE cH cU cW : Addr}
theorem ok_l_base_told (T : Tp P K mg cE cH cU cW)
    (c_base_dimension : Cal P w K mg base 2 "base_dimension" P_base_dimension [] (spBase K cU))
    {f : Addr} {fd : FuncData} {dvs : List V} (F : FunD K "_law_base_told" "_law_base_told" (defArgs s_l_base_told) (defBody s_l_base_told) (defScope s_l_base_told) dvs [] f fd) : FnG P w K mg base 3 f fd P_l_base_told (spBaseTold K) := by
  refine fng F sc_l_base_told (by walk_at "ulen") (fun cdv A outer s H vs Q E hr0 hg0 h => ?_)
  have hr : Rm 2 (A.deeper (envOfC "_law_base_told" (defScope s_l_base_told) s.heap.objs.size f cdv)) := ⟨hr0, hg0⟩
  have nd : N_l_base_told.Nodup := sc_l_base_told.nd
  have tk : Takes (cxOf (L2.CX P w) P w K mg base N_l_base_told "_law_base_told" (defScope s_l_base_told) f cdv A outer s H E) (fun cls d _ H => E cls d H) := takes_of rfl rfl rfl rfl
  obtain ⟨p, n, bs, rfl, hp, h100, k, kx⟩ := h
  refine ⟨_, (pss_one (ps_tryC tk (fun W_ pn_ xe_ tkb pob =>
      (pss_one (ps_ret (pe_tup (pa_cons pe_str (pa_cons (pe_c c_base_dimension (hr.mono (by decide)) (fun σ => passAt tkb σ) (pa_cons (pv 0) (pa_cons (pv 1) pa_nil))) pa_nil))))))
      (ClOk.named (i := 2) ⟨by rfl, by decide, Or.inl T.g_Unknown⟩ nd rfl rfl
      (fun a_ oe_ cls_ d_ pn_ hz hf => (pss_cons (ps_if (PW.pt (pw_and (pt_val (pe_callB (call_isX hz hf) (by rfl) T.isinstance b_isinstance (pa_cons (pv 2) (pa_cons (pe_bltn (v := .ty "ValueError") (by rfl) T.ValueError b_ValueError rfl) pa_nil)))) (pw_and (pt_val (pe_callB (call_isX hz hf) (by rfl) T.isinstance b_isinstance (pa_cons (pv 2) (pa_cons (pe_gR T.g_EllError) pa_nil)))) (pw_and1 (pt_not (pt_val (pe_callB (call_isX hz hf) (by rfl) T.isinstance b_isinstance (pa_cons (pv 2) (pa_cons (pe_gR T.g_TooHigh) pa_nil))))))))) (pss_one (ps_ret (pe_tup (pa_cons pe_str (pa_cons (pe_xf T.xf_Unknown T.xn_Unknown_name hz hf (pv 2)) pa_nil))))) pss_nil)
    (pss_one (ps_ret (pe_tup (pa_cons pe_str (pa_cons pe_non pa_nil)))))))
      (ClOk.bare ⟨by rfl, by decide, Or.inl T.g_EllError⟩
      (fun a_ oe_ cls_ d_ pn_ hz hf => (pss_one (ps_ret (pe_tup (pa_cons pe_str (pa_cons pe_non pa_nil))))))
      ClOk.nil)))), ?_⟩
  walk_at "uk"
  walk_at "uy"
  refine ⟨p, n, bs, rfl, hp, h100, fun hn v H1 e1 hv => ?_, fun hn e H1 e1 he => ?_⟩
  · refine s_szN (Nat.le_of_ble_eq_true rfl) fun q hq => ?_
    obtain ⟨r, rfl, hr⟩ := hv
    exact k hn q _ _ (e1.tr (exN hq)) ⟨r, rfl, Ex.st hr (exN hq)⟩ upd_same
  · refine s_hit T.mUU fun a ha => ?_
    dsimp only [setO, endO]
    walk_at "us"
    refine s_isXt he T.eU T.oUV ?_
    walk_at "us"
    refine s_isXr he T.eU T.oUE ?_
    walk_at "us"
    refine s_isXr he T.eU T.oUH ?_
    walk_at "ua"
    refine s_xfV rfl he rfl ?_
    walk_at "us"
    refine s_szN (Nat.le_of_ble_eq_true rfl) fun q hq => ?_
    exact kx hn q _ (e1.tr (exN hq)) upd_same
end
end Lw

set_option Elab.async false
set_option linter.all false
set_option maxRecDepth 100000
set_option maxHeartbeats 4000000
namespace Lw
open PySem PySem.Spec L2 Uv
open PyProof.Rows hiding St
local macro_rules | `(tactic| walk_at "umul") => `(tactic| fail)
local macro_rules | `(tactic| walk_at "us1") => `(tactic| first
  | (with_reducible refine s_seq ?_) | (with_reducible refine s_asg ?_) | (with_reducible refine s_gn ?_) | (with_reducible refine s_ret ?_) | (with_reducible refine s_drop ?_) | (with_reducible refine s_if ?_) | (with_reducible refine s_next ?_)
  | (with_reducible refine s_brk ?_) | (with_reducible refine s_cont ?_)
  | ((with_reducible refine' s_var ?hv ?_); (case hv => exact rfl)) | (with_reducible refine s_c ?_) | (with_reducible refine s_op ?_) | (with_reducible refine s_un ?_) | (with_reducible refine s_cb ?_) | (with_reducible refine s_call ?_)
  | (with_reducible refine s_cons ?_) | (with_reducible refine s_nil ?_) | (with_reducible refine s_test ?_) | (with_reducible refine s_tB ?_) | (with_reducible refine s_not ?_) | (with_reducible refine s_and ?_) | (with_reducible refine s_or ?_)
  | (with_reducible refine s_andV ?_) | (with_reducible refine s_orV ?_) | (with_reducible refine s_notV ?_) | (with_reducible refine s_ifE ?_) | (with_reducible refine s_bl ?_) | (with_reducible refine s_iT ?_) | (with_reducible refine s_iF ?_)
  | (with_reducible refine s_I0 ?_) | (with_reducible refine s_U ?_) | (with_reducible refine s_addI ?_) | (with_reducible refine s_eqI ?_) | (with_reducible refine s_eqS ?_) | (with_reducible refine s_eqB ?_) | (with_reducible refine s_neI ?_) | (with_reducible refine s_neS ?_) | (with_reducible refine s_neB ?_)
  | (with_reducible refine s_tupE ?_) | (with_reducible refine s_lstE ?_))
local macro_rules | `(tactic| walk_at "us") => `(tactic| repeat walk_at "us1")
local macro_rules | `(tactic| walk_at "ulen") => `(tactic| (intro vs H Q E h; repeat' (first | (obtain ⟨e, _⟩ := h; subst e; rfl) | (subst h; rfl) | (refine Or.elim h (fun h => ?_) (fun h => ?_)) | (obtain ⟨_, h⟩ := h))))
local macro_rules | `(tactic| walk_at "uk") => `(tactic| (try dsimp only [cxOf, Cx.suite, Cx.tr]))
local macro_rules | `(tactic| walk_at "us2") => `(tactic| first
  | walk_at "us1" | (with_reducible refine s_dput ?_) | ((with_reducible refine' s_mod ?hc ?_); (case hc => first | decide | assumption | omega))
  | (with_reducible refine s_for ?_) | (with_reducible refine s_lc ?_) | (with_reducible refine s_bm ?_) | (with_reducible refine s_ilt ?_) | (with_reducible refine s_izx ?_) | (with_reducible refine s_ienum ?_) | (with_reducible refine s_din ?_) | (with_reducible refine s_dnotin ?_) | (with_reducible refine s_itl ?_) | (with_reducible refine s_itt ?_) | (with_reducible refine s_its ?_) | (with_reducible refine s_itr ?_) | (with_reducible refine s_itr2 ?_) | (with_reducible refine s_disp ?_) | (with_reducible refine s_prn ?_) | (with_reducible refine s_prc ?_) | (with_reducible refine s_m1 ?_) | (with_reducible refine s_isS ?_) | (with_reducible refine s_um1 ?_) | (with_reducible refine s_isB ?_) | (with_reducible refine s_isn ?_) | (with_reducible refine s_notn ?_) | (with_reducible refine s_jd ?_) | (with_reducible refine s_jn ?_) | (with_reducible refine s_jc ?_) | (with_reducible refine s_fmt ?_) | (with_reducible refine s_gc ?_) | (with_reducible refine s_gnil ?_) | (with_reducible refine s_yes ?_) | (with_reducible refine s_raise ?_)
  | ((with_reducible refine' s_pow ?hc ?_); (case hc => exact ⟨by decide, by decide, by decide⟩)) | (with_reducible refine s_int ?_) | (with_reducible refine s_intB ?_) | (with_reducible refine s_strS ?_) | (with_reducible refine s_abs ?_) | (with_reducible refine s_max ?_) | (with_reducible refine s_min ?_) | (with_reducible refine s_gcd ?_)
  | (with_reducible refine s_chain ?_) | (with_reducible refine s_sl ?_) | (with_reducible refine s_noP ?_) | (with_reducible refine s_part ?_) | (with_reducible refine s_exI ?_) 
  | ((with_reducible refine' s_mulI ?hc ?_); (case hc => first | exact Or.inl (Or.inr ⟨by decide, by decide⟩) | exact Or.inl (Or.inl ⟨by decide, by decide⟩) | exact Or.inl (Or.inl ⟨by omega, by omega⟩) | exact Or.inl (Or.inr ⟨by omega, by omega⟩) | walk_at "umul"))
  | ((with_reducible refine' s_ixT ?hc ?hd ?_); (case hc => assumption); (case hd => rfl))
  | ((with_reducible refine' s_lenL ?hc ?_); (case hc => first | assumption | exact SqL.of (by assumption))) | ((with_reducible refine' s_lenT ?hc ?_); (case hc => first | assumption | exact SqT.of (by assumption)))
  | ((with_reducible refine' s_divP ?hc ?hd ?_); (case hc => first | decide | assumption | omega); (case hd => first | decide +kernel | assumption)))
local macro_rules | `(tactic| walk_at "us") => `(tactic| repeat walk_at "us2")
local macro_rules | `(tactic| walk_at "uj") => `(tactic| ((walk_at "us"); with_reducible refine s_J ?_))
local macro_rules | `(tactic| walk_at "ua") => `(tactic| ((walk_at "us"); repeat ((first | (refine s_iF ?_) | (refine s_iT ?_)); (walk_at "us"))))
local macro_rules | `(tactic| walk_at "ub") => `(tactic| walk_at "ua")
local macro_rules | `(tactic| walk_at "ux1") => `(tactic| first
  | walk_at "us2" | ((with_reducible refine' s_ixL ?hc ?hd ?_); (case hc => first | assumption | exact SqL.of (by assumption)); (case hd => rfl)) | ((with_reducible refine' s_ixT ?hc ?hd ?_); (case hc => exact SqT.of (by assumption)); (case hd => rfl))
  | ((with_reducible refine' s_intS ?hc ?hd ?_); (case hc => assumption); (case hd => assumption)) | ((with_reducible refine' s_lenS ?hc ?_); (case hc => assumption)))
local macro_rules | `(tactic| walk_at "ux") => `(tactic| repeat walk_at "ux1")
local macro_rules | `(tactic| walk_at "uy") => `(tactic| ((walk_at "ux"); repeat ((first | (refine s_iF ?_) | (refine s_iT ?_)); (walk_at "ux"))))
local macro_rules | `(tactic| walk_at "uz0") => `(tactic| first
  | (with_reducible refine s_seq ?_) | (with_reducible refine s_asg ?_) | (with_reducible refine s_gn ?_) | (with_reducible refine s_ret ?_) | (with_reducible refine s_drop ?_) | (with_reducible refine s_if ?_) | (with_reducible refine s_next ?_)
  | (with_reducible refine s_brk ?_) | (with_reducible refine s_cont ?_)
  | ((with_reducible refine' s_var ?hv ?_); (case hv => exact rfl)) | (with_reducible refine s_c ?_) | (with_reducible refine s_op ?_) | (with_reducible refine s_un ?_) | (with_reducible refine s_cb ?_) | (with_reducible refine s_call ?_)
  | (with_reducible refine s_cons ?_) | (with_reducible refine s_nil ?_) | (with_reducible refine s_test ?_) | (with_reducible refine s_tB ?_) | (with_reducible refine s_not ?_) | (with_reducible refine s_and ?_) | (with_reducible refine s_or ?_)
  | (with_reducible refine s_andV ?_) | (with_reducible refine s_orV ?_) | (with_reducible refine s_notV ?_) | (with_reducible refine s_ifE ?_) | (with_reducible refine s_bl ?_) | (with_reducible refine s_iT ?_) | (with_reducible refine s_iF ?_)
  | (with_reducible refine s_I0 ?_) | (with_reducible refine s_U ?_) | (with_reducible refine s_addI ?_) | (with_reducible refine s_eqI ?_) | (with_reducible refine s_eqS ?_) | (with_reducible refine s_eqB ?_) | (with_reducible refine s_neI ?_) | (with_reducible refine s_neS ?_) | (with_reducible refine s_neB ?_))
local macro_rules | `(tactic| walk_at "uz2") => `(tactic| first
  | walk_at "uz0" | (with_reducible refine s_dput ?_) | ((with_reducible refine' s_mod ?hc ?_); (case hc => first | decide | assumption | omega))
  | (with_reducible refine s_for ?_) | (with_reducible refine s_lc ?_) | (with_reducible refine s_bm ?_) | (with_reducible refine s_ilt ?_) | (with_reducible refine s_izx ?_) | (with_reducible refine s_ienum ?_) | (with_reducible refine s_din ?_) | (with_reducible refine s_dnotin ?_) | (with_reducible refine s_itl ?_) | (with_reducible refine s_itt ?_) | (with_reducible refine s_its ?_) | (with_reducible refine s_itr ?_) | (with_reducible refine s_itr2 ?_) | (with_reducible refine s_disp ?_) | (with_reducible refine s_prn ?_) | (with_reducible refine s_prc ?_) | (with_reducible refine s_m1 ?_) | (with_reducible refine s_isS ?_) | (with_reducible refine s_um1 ?_) | (with_reducible refine s_isB ?_) | (with_reducible refine s_isn ?_) | (with_reducible refine s_notn ?_) | (with_reducible refine s_jd ?_) | (with_reducible refine s_jn ?_) | (with_reducible refine s_jc ?_) | (with_reducible refine s_fmt ?_) | (with_reducible refine s_gc ?_) | (with_reducible refine s_gnil ?_) | (with_reducible refine s_yes ?_) | (with_reducible refine s_raise ?_)
  | ((with_reducible refine' s_pow ?hc ?_); (case hc => exact ⟨by decide, by decide, by decide⟩)) | (with_reducible refine s_int ?_) | (with_reducible refine s_intB ?_) | (with_reducible refine s_strS ?_) | (with_reducible refine s_abs ?_) | (with_reducible refine s_max ?_) | (with_reducible refine s_min ?_) | (with_reducible refine s_gcd ?_)
  | (with_reducible refine s_chain ?_) | (with_reducible refine s_sl ?_) | (with_reducible refine s_noP ?_) | (with_reducible refine s_part ?_) | (with_reducible refine s_exI ?_) 
  | ((with_reducible refine' s_mulI ?hc ?_); (case hc => first | exact Or.inl (Or.inr ⟨by decide, by decide⟩) | exact Or.inl (Or.inl ⟨by decide, by decide⟩) | exact Or.inl (Or.inl ⟨by omega, by omega⟩) | exact Or.inl (Or.inr ⟨by omega, by omega⟩) | walk_at "umul"))
  | ((with_reducible refine' s_ixT ?hc ?hd ?_); (case hc => assumption); (case hd => rfl))
  | ((with_reducible refine' s_lenL ?hc ?_); (case hc => first | assumption | exact SqL.of (by assumption))) | ((with_reducible refine' s_lenT ?hc ?_); (case hc => first | assumption | exact SqT.of (by assumption)))
  | ((with_reducible refine' s_divP ?hc ?hd ?_); (case hc => first | decide | assumption | omega); (case hd => first | decide +kernel | assumption)))
local macro_rules | `(tactic| walk_at "uz1") => `(tactic| first
  | walk_at "uz2" | ((with_reducible refine' s_ixL ?hc ?hd ?_); (case hc => first | assumption | exact SqL.of (by assumption)); (case hd => rfl)) | ((with_reducible refine' s_ixT ?hc ?hd ?_); (case hc => exact SqT.of (by assumption)); (case hd => rfl))
  | ((with_reducible refine' s_intS ?hc ?hd ?_); (case hc => assumption); (case hd => assumption)) | ((with_reducible refine' s_lenS ?hc ?_); (case hc => assumption)))
local macro_rules | `(tactic| walk_at "uz") => `(tactic| ((repeat walk_at "uz1"); repeat ((first | (refine s_iF ?_) | (refine s_iT ?_)); (repeat walk_at "uz1"))))
section
variable {P : Program} {w : World} {K : PySem.W.Frag} {mg : Str → Option Value} {base : Heap}
variable {cE cH cU cW : Addr}
theorem ok_l_dimension (T : Tp P K mg cE cH cU cW)
    (c_l_pick : Cal P w K mg base 1 "_law_pick" P_l_pick [] (spPick))
    {f : Addr} {fd : FuncData} {dvs : List V} (F : FunD K "_law_dimension" "_law_dimension" (defArgs s_l_dimension) (defBody s_l_dimension) (defScope s_l_dimension) dvs [] f fd) : FnG P w K mg base 2 f fd P_l_dimension (spDimension K) := by
  refine fng F sc_l_dimension (by walk_at "ulen") (fun cdv A outer s H vs Q E hr0 hg0 h => ?_)
  have hr : Rm 1 (A.deeper (envOfC "_law_dimension" (defScope s_l_dimension) s.heap.objs.size f cdv)) := ⟨hr0, hg0⟩
  have nd : N_l_dimension.Nodup := sc_l_dimension.nd
  obtain ⟨b, m, rfl, hb, m0, m1, k⟩ := h
  refine ⟨_, (pss_cons (ps_set (i := 2) nd rfl (Or.inr rfl) (pe_ix ix_seq (pe_lst (pa_cons pe_int (pa_cons pe_int (pa_cons pe_int (pa_cons pe_int pa_nil))))) (pe_c (E := En) c_l_pick (hr.mono (by decide)) paN (pa_cons (pv 0) (pa_cons pe_int pa_nil))) (fun _ _ => rfl)))
    (pss_one (ps_ret (pe_callTy call_uTup (by rfl) T.tuple b_tuple (pa_cons (pe_lc (own := [("_law_k", 3)]) (g := gName 3) (by rfl) nd (pi_range1 (by rfl) T.range (pa_cons (pv 1) pa_nil)) (blkOk_by (own := [("_law_k", 3)]) (N := N_l_dimension) (sc := defScope s_l_dimension) (by decide +kernel)) (fun s_ H_ C_ cl_ fp_ => pg_name (i := 3) nd rfl (Or.inl rfl)) (fun s_ H_ C_ cl_ fp_ => pts_nil) (fun s_ H_ C_ cl_ fp_ => (pe_op op_sub (pe_c (E := En) c_l_pick (hr.mono (by decide)) paN (pa_cons (pv 0) (pa_cons (pe_op (op_uAddK (K := K) rfl) (pe_op (op_uMulK (K := K) rfl) pe_int (pv 2)) pe_int) pa_nil))) (pv 2)))) pa_nil))))), ?_⟩
  walk_at "uk"
  walk_at "uy"
  refine s_szN (Nat.le_of_ble_eq_true rfl) fun q nq => ?_
  walk_at "uy"
  have e1 := exN (o := .lst [.int 1, .int 2, .int 4, .int 9]) nq
  have f1 : upd H q (.lst [.int 1, .int 2, .int 4, .int 9]) q = _ := upd_same
  have k1 := e1.kb hb
  generalize upd H q (.lst [.int 1, .int 2, .int 4, .int 9]) = H1 at e1 f1 k1
  refine ⟨b, 4, rfl, k1.b1, by decide, by decide, fun r H2 r0 r1 k2 => ?_⟩
  obtain ⟨v, hv, hm⟩ := mem_ix (xs := [.int 1, .int 2, .int 4, .int 9]) r0 (by exact r1)
  refine s_ixL (.of (k2.at f1 fun _ z => by cases z)) hv ?_
  obtain ⟨wd, rfl, w1, w9⟩ : ∃ i : Int, v = .int i ∧ 1 ≤ i ∧ i ≤ 9 := by
    simp only [List.mem_cons, List.not_mem_nil, or_false] at hm
    rcases hm with rfl | rfl | rfl | rfl <;> exact ⟨_, rfl, by decide, by decide⟩
  have k3 := k1.tr k2
  walk_at "uy"
  refine ⟨m, rfl, by omega, by omega, ?_⟩
  refine lcRng (n := m.toNat) (fun D i acc H' => Kb b H2 H' ∧ H' D = some (.lst acc) ∧ ∃ xs : List Int, acc = xs.map V.int ∧ xs.length = i ∧ inR xs = true) (fun D n => ⟨(exN n).kb k3.b1, upd_same, [], rfl, rfl, rfl⟩) ?_ ?_
  · rintro D acc H4 nD ⟨k4, hD, xs, rfl, hl, hr⟩
    walk_at "uy"
    refine s_tupOfL (.of hD) fun t H5 e5 ht => ?_
    exact k _ xs H5 (by omega) hr ((k3.tr k4).tr (e5.kb k4.b1)) ⟨t, rfl, ht⟩
  · rintro D i acc H4 nD hi ⟨k4, hD, xs, rfl, hl, hr⟩
    refine ⟨rfl, s_yes (s_iT ?_)⟩
    walk_at "uy"
    refine ⟨b, _, rfl, k4.b1, by omega, lt_log9000 (by omega), fun x H5 x0 x1 k5 => ?_⟩
    walk_at "uy"
    have hD5 := k5.at hD fun _ z => by cases z
    have k6 := k4.tr k5
    refine ⟨_, hD5, by rw [List.length_map, hl]; show _ < 16777216; omega, _, k6.put nD _, upd_same, xs ++ [x - wd], by rw [List.map_append]; rfl, by rw [List.length_append, hl]; rfl, ?_⟩
    unfold inR at hr ⊢
    rw [List.all_append, hr]
    simp
    omega
end
end Lw

set_option Elab.async false
set_option linter.all false
set_option maxRecDepth 100000
set_option maxHeartbeats 4000000
namespace Lw
open PySem PySem.Spec L2 Uv
open PyProof.Rows hiding St
local macro_rules | `(tactic| walk_at "umul") => `(tactic| fail)
local macro_rules | `(tactic| walk_at "us1") => `(tactic| first
  | (with_reducible refine s_seq ?_) | (with_reducible refine s_asg ?_) | (with_reducible refine s_gn ?_) | (with_reducible refine s_ret ?_) | (with_reducible refine s_drop ?_) | (with_reducible refine s_if ?_) | (with_reducible refine s_next ?_)
  | (with_reducible refine s_brk ?_) | (with_reducible refine s_cont ?_)
  | ((with_reducible refine' s_var ?hv ?_); (case hv => exact rfl)) | (with_reducible refine s_c ?_) | (with_reducible refine s_op ?_) | (with_reducible refine s_un ?_) | (with_reducible refine s_cb ?_) | (with_reducible refine s_call ?_)
  | (with_reducible refine s_cons ?_) | (with_reducible refine s_nil ?_) | (with_reducible refine s_test ?_) | (with_reducible refine s_tB ?_) | (with_reducible refine s_not ?_) | (with_reducible refine s_and ?_) | (with_reducible refine s_or ?_)
  | (with_reducible refine s_andV ?_) | (with_reducible refine s_orV ?_) | (with_reducible refine s_notV ?_) | (with_reducible refine s_ifE ?_) | (with_reducible refine s_bl ?_) | (with_reducible refine s_iT ?_) | (with_reducible refine s_iF ?_)
  | (with_reducible refine s_I0 ?_) | (with_reducible refine s_U ?_) | (with_reducible refine s_addI ?_) | (with_reducible refine s_eqI ?_) | (with_reducible refine s_eqS ?_) | (with_reducible refine s_eqB ?_) | (with_reducible refine s_neI ?_) | (with_reducible refine s_neS ?_) | (with_reducible refine s_neB ?_)
  | (with_reducible refine s_tupE ?_) | (with_reducible refine s_lstE ?_))
local macro_rules | `(tactic| walk_at "us") => `(tactic| repeat walk_at "us1")
local macro_rules | `(tactic| walk_at "ulen") => `(tactic| (intro vs H Q E h; repeat' (first | (obtain ⟨e, _⟩ := h; subst e; rfl) | (subst h; rfl) | (refine Or.elim h (fun h => ?_) (fun h => ?_)) | (obtain ⟨_, h⟩ := h))))
local macro_rules | `(tactic| walk_at "uk") => `(tactic| (try dsimp only [cxOf, Cx.suite, Cx.tr]))
local macro_rules | `(tactic| walk_at "us2") => `(tactic| first
  | walk_at "us1" | (with_reducible refine s_dput ?_) | ((with_reducible refine' s_mod ?hc ?_); (case hc => first | decide | assumption | omega))
  | (with_reducible refine s_for ?_) | (with_reducible refine s_lc ?_) | (with_reducible refine s_bm ?_) | (with_reducible refine s_ilt ?_) | (with_reducible refine s_izx ?_) | (with_reducible refine s_ienum ?_) | (with_reducible refine s_din ?_) | (with_reducible refine s_dnotin ?_) | (with_reducible refine s_itl ?_) | (with_reducible refine s_itt ?_) | (with_reducible refine s_its ?_) | (with_reducible refine s_itr ?_) | (with_reducible refine s_itr2 ?_) | (with_reducible refine s_disp ?_) | (with_reducible refine s_prn ?_) | (with_reducible refine s_prc ?_) | (with_reducible refine s_m1 ?_) | (with_reducible refine s_isS ?_) | (with_reducible refine s_um1 ?_) | (with_reducible refine s_isB ?_) | (with_reducible refine s_isn ?_) | (with_reducible refine s_notn ?_) | (with_reducible refine s_jd ?_) | (with_reducible refine s_jn ?_) | (with_reducible refine s_jc ?_) | (with_reducible refine s_fmt ?_) | (with_reducible refine s_gc ?_) | (with_reducible refine s_gnil ?_) | (with_reducible refine s_yes ?_) | (with_reducible refine s_raise ?_)
  | ((with_reducible refine' s_pow ?hc ?_); (case hc => exact ⟨by decide, by decide, by decide⟩)) | (with_reducible refine s_int ?_) | (with_reducible refine s_intB ?_) | (with_reducible refine s_strS ?_) | (with_reducible refine s_abs ?_) | (with_reducible refine s_max ?_) | (with_reducible refine s_min ?_) | (with_reducible refine s_gcd ?_)
  | (with_reducible refine s_chain ?_) | (with_reducible refine s_sl ?_) | (with_reducible refine s_noP ?_) | (with_reducible refine s_part ?_) | (with_reducible refine s_exI ?_) 
  | ((with_reducible refine' s_mulI ?hc ?_); (case hc => first | exact Or.inl (Or.inr ⟨by decide, by decide⟩) | exact Or.inl (Or.inl ⟨by decide, by decide⟩) | exact Or.inl (Or.inl ⟨by omega, by omega⟩) | exact Or.inl (Or.inr ⟨by omega, by omega⟩) | walk_at "umul"))
  | ((with_reducible refine' s_ixT ?hc ?hd ?_); (case hc => assumption); (case hd => rfl))
  | ((with_reducible refine' s_lenL ?hc ?_); (case hc => first | assumption | exact SqL.of (by assumption))) | ((with_reducible refine' s_lenT ?hc ?_); (case hc => first | assumption | exact SqT.of (by assumption)))
  | ((with_reducible refine' s_divP ?hc ?hd ?_); (case hc => first | decide | assumption | omega); (case hd => first | decide +kernel | assumption)))
local macro_rules | `(tactic| walk_at "us") => `(tactic| repeat walk_at "us2")
local macro_rules | `(tactic| walk_at "uj") => `(tactic| ((walk_at "us"); with_reducible refine s_J ?_))
local macro_rules | `(tactic| walk_at "ua") => `(tactic| ((walk_at "us"); repeat ((with_reducible refine s_ick ?_); (first | (refine s_iF ?_) | (refine s_iT ?_)); (walk_at "us"))))
local macro_rules | `(tactic| walk_at "ub") => `(tactic| walk_at "ua")
local macro_rules | `(tactic| walk_at "ux1") => `(tactic| first
  | walk_at "us2" | ((with_reducible refine' s_ixL ?hc ?hd ?_); (case hc => first | assumption | exact SqL.of (by assumption)); (case hd => rfl)) | ((with_reducible refine' s_ixT ?hc ?hd ?_); (case hc => exact SqT.of (by assumption)); (case hd => rfl))
  | ((with_reducible refine' s_intS ?hc ?hd ?_); (case hc => assumption); (case hd => assumption)) | ((with_reducible refine' s_lenS ?hc ?_); (case hc => assumption)))
local macro_rules | `(tactic| walk_at "ux") => `(tactic| repeat walk_at "ux1")
local macro_rules | `(tactic| walk_at "uy") => `(tactic| ((walk_at "ux"); repeat ((with_reducible refine s_ick ?_); (first | (refine s_iF ?_) | (refine s_iT ?_)); (walk_at "ux"))))
local macro_rules | `(tactic| walk_at "uz0") => `(tactic| first
  | (with_reducible refine s_seq ?_) | (with_reducible refine s_asg ?_) | (with_reducible refine s_gn ?_) | (with_reducible refine s_ret ?_) | (with_reducible refine s_drop ?_) | (with_reducible refine s_if ?_) | (with_reducible refine s_next ?_)
  | (with_reducible refine s_brk ?_) | (with_reducible refine s_cont ?_)
  | ((with_reducible refine' s_var ?hv ?_); (case hv => exact rfl)) | (with_reducible refine s_c ?_) | (with_reducible refine s_op ?_) | (with_reducible refine s_un ?_) | (with_reducible refine s_cb ?_) | (with_reducible refine s_call ?_)
  | (with_reducible refine s_cons ?_) | (with_reducible refine s_nil ?_) | (with_reducible refine s_test ?_) | (with_reducible refine s_tB ?_) | (with_reducible refine s_not ?_) | (with_reducible refine s_and ?_) | (with_reducible refine s_or ?_)
  | (with_reducible refine s_andV ?_) | (with_reducible refine s_orV ?_) | (with_reducible refine s_notV ?_) | (with_reducible refine s_ifE ?_) | (with_reducible refine s_bl ?_) | (with_reducible refine s_iT ?_) | (with_reducible refine s_iF ?_)
  | (with_reducible refine s_I0 ?_) | (with_reducible refine s_U ?_) | (with_reducible refine s_addI ?_) | (with_reducible refine s_eqI ?_) | (with_reducible refine s_eqS ?_) | (with_reducible refine s_eqB ?_) | (with_reducible refine s_neI ?_) | (with_reducible refine s_neS ?_) | (with_reducible refine s_neB ?_))
local macro_rules | `(tactic| walk_at "uz2") => `(tactic| first
  | walk_at "uz0" | (with_reducible refine s_dput ?_) | ((with_reducible refine' s_mod ?hc ?_); (case hc => first | decide | assumption | omega))
  | (with_reducible refine s_for ?_) | (with_reducible refine s_lc ?_) | (with_reducible refine s_bm ?_) | (with_reducible refine s_ilt ?_) | (with_reducible refine s_izx ?_) | (with_reducible refine s_ienum ?_) | (with_reducible refine s_din ?_) | (with_reducible refine s_dnotin ?_) | (with_reducible refine s_itl ?_) | (with_reducible refine s_itt ?_) | (with_reducible refine s_its ?_) | (with_reducible refine s_itr ?_) | (with_reducible refine s_itr2 ?_) | (with_reducible refine s_disp ?_) | (with_reducible refine s_prn ?_) | (with_reducible refine s_prc ?_) | (with_reducible refine s_m1 ?_) | (with_reducible refine s_isS ?_) | (with_reducible refine s_um1 ?_) | (with_reducible refine s_isB ?_) | (with_reducible refine s_isn ?_) | (with_reducible refine s_notn ?_) | (with_reducible refine s_jd ?_) | (with_reducible refine s_jn ?_) | (with_reducible refine s_jc ?_) | (with_reducible refine s_fmt ?_) | (with_reducible refine s_gc ?_) | (with_reducible refine s_gnil ?_) | (with_reducible refine s_yes ?_) | (with_reducible refine s_raise ?_)
  | ((with_reducible refine' s_pow ?hc ?_); (case hc => exact ⟨by decide, by decide, by decide⟩)) | (with_reducible refine s_int ?_) | (with_reducible refine s_intB ?_) | (with_reducible refine s_strS ?_) | (with_reducible refine s_abs ?_) | (with_reducible refine s_max ?_) | (with_reducible refine s_min ?_) | (with_reducible refine s_gcd ?_)
  | (with_reducible refine s_chain ?_) | (with_reducible refine s_sl ?_) | (with_reducible refine s_noP ?_) | (with_reducible refine s_part ?_) | (with_reducible refine s_exI ?_) 
  | ((with_reducible refine' s_mulI ?hc ?_); (case hc => first | exact Or.inl (Or.inr ⟨by decide, by decide⟩) | exact Or.inl (Or.inl ⟨by decide, by decide⟩) | exact Or.inl (Or.inl ⟨by omega, by omega⟩) | exact Or.inl (Or.inr ⟨by omega, by omega⟩) | walk_at "umul"))
  | ((with_reducible refine' s_ixT ?hc ?hd ?_); (case hc => assumption); (case hd => rfl))
  | ((with_reducible refine' s_lenL ?hc ?_); (case hc => first | assumption | exact SqL.of (by assumption))) | ((with_reducible refine' s_lenT ?hc ?_); (case hc => first | assumption | exact SqT.of (by assumption)))
  | ((with_reducible refine' s_divP ?hc ?hd ?_); (case hc => first | decide | assumption | omega); (case hd => first | decide +kernel | assumption)))
local macro_rules | `(tactic| walk_at "uz1") => `(tactic| first
  | walk_at "uz2" | ((with_reducible refine' s_ixL ?hc ?hd ?_); (case hc => first | assumption | exact SqL.of (by assumption)); (case hd => rfl)) | ((with_reducible refine' s_ixT ?hc ?hd ?_); (case hc => exact SqT.of (by assumption)); (case hd => rfl))
  | ((with_reducible refine' s_intS ?hc ?hd ?_); (case hc => assumption); (case hd => assumption)) | ((with_reducible refine' s_lenS ?hc ?_); (case hc => assumption)))
local macro_rules | `(tactic| walk_at "uz") => `(tactic| ((repeat walk_at "uz1"); repeat ((with_reducible refine s_ick ?_); (first | (refine s_iF ?_) | (refine s_iT ?_)); (repeat walk_at "uz1"))))
theorem zw_range {K : PySem.W.Frag} : True := trivial
section
variable {P : Program} {w : World} {K : PySem.W.Frag} {mg : Str → Option Value} {base : Heap}
variable {cE cH cU cW : Addr}
theorem ok_l_right_products (T : Tp P K mg cE cH cU cW)
    (c_l_multiplied_told : Cal P w K mg base 4 "_law_multiplied_told" P_l_multiplied_told [] (spMulTold K))
    (c_l_same : Cal P w K mg base 2 "_law_same" P_l_same [] (spSame K))
    {f : Addr} {fd : FuncData} {dvs : List V} (F : FunD K "_law_right_products" "_law_right_products" (defArgs s_l_right_products) (defBody s_l_right_products) (defScope s_l_right_products) dvs [] f fd) : FnG P w K mg base 5 f fd P_l_right_products (spRightProducts K) := by
  refine fng F sc_l_right_products (by walk_at "ulen") (fun cdv A outer s H vs Q E hr0 hg0 h => ?_)
  have hr : Rm 4 (A.deeper (envOfC "_law_right_products" (defScope s_l_right_products) s.heap.objs.size f cdv)) := ⟨hr0, hg0⟩
  have nd : N_l_right_products.Nodup := sc_l_right_products.nd
  have po : PassesOwn (model P w) (cxOf (L2.CX P w) P w K mg base N_l_right_products "_law_right_products" (defScope s_l_right_products) f cdv A outer s H E).A (cxOf (L2.CX P w) P w K mg base N_l_right_products "_law_right_products" (defScope s_l_right_products) f cdv A outer s H E).env (cxOf (L2.CX P w) P w K mg base N_l_right_products "_law_right_products" (defScope s_l_right_products) f cdv A outer s H E).xe := passes_of rfl
  obtain ⟨a, b, xs, ys, rfl, ⟨p, rfl, hp⟩, ⟨q, rfl, hq⟩, hl, h100, k⟩ := h
  refine ⟨_, (pss_cons (ps_for po rfl (pi_range1 (by rfl) T.range (pa_cons pe_int pa_nil)) (pg_name (i := 2) nd rfl (Or.inr rfl))
    (pss_cons (ps_set (i := 3) nd rfl (Or.inl rfl) (pe_callTy call_uTup (by rfl) T.tuple b_tuple (pa_cons (pe_lc (own := [("_law_k", 4)]) (g := gName 4) (by rfl) nd (pi_range1 (by rfl) T.range (pa_cons (pe_callB call_uLen (by rfl) T.len b_len (pa_cons (pv 0) pa_nil)) pa_nil)) (blkOk_by (own := [("_law_k", 4)]) (N := N_l_right_products) (sc := defScope s_l_right_products) (by decide +kernel)) (fun s_ H_ C_ cl_ fp_ => pg_name (i := 4) nd rfl (Or.inl rfl)) (fun s_ H_ C_ cl_ fp_ => pts_nil) (fun s_ H_ C_ cl_ fp_ => (pe_ifExp (pt_cmpR (op_uEqK (K := K) rfl hr.r.units) (pv 2) pe_int (nomark _)) (pe_op (op_uAddK (K := K) rfl) (pe_ix (ix_seqK (K := K) rfl) (pv 0) (pv 4) (fun _ _ => rfl)) (pe_ix (ix_seqK (K := K) rfl) (pv 1) (pv 4) (fun _ _ => rfl))) (pe_op op_sub (pe_ix (ix_seqK (K := K) rfl) (pv 0) (pv 4) (fun _ _ => rfl)) (pe_ix (ix_seqK (K := K) rfl) (pv 1) (pv 4) (fun _ _ => rfl)))))) pa_nil)))
    (pss_cons (ps_set (i := 5) nd rfl (Or.inl rfl) (pe_c (E := En) c_l_multiplied_told (hr.mono (by decide)) paN (pa_cons (pv 0) (pa_cons (pv 1) (pa_cons (pv 2) pa_nil)))))
    (pss_cons (ps_set (i := 6) nd rfl (Or.inl rfl) pe_str)
    (pss_cons (ps_for po rfl (pi_tup (pv 3)) (pg_name (i := 7) nd rfl (Or.inl rfl))
    (pss_one (ps_if (pt_not (pt_chain op_le op_le (pe_un un_neg pe_int) (pv 7) pe_int)) (pss_one (ps_set (i := 6) nd rfl (Or.inl rfl) pe_str)) pss_nil)))
    (pss_one (ps_if (PW.pt (pw_or (pt_cmpR (op_uNe hr.r.units) (pe_ix ix_seq (pv 5) pe_int (fun _ _ => rfl)) (pv 6) (nomark _)) (pw_or1 (pt_not (pt_val (pe_c (E := En) c_l_same (hr.mono (by decide)) paN (pa_cons (pe_ix ix_seq (pv 5) pe_int (fun _ _ => rfl)) (pa_cons (pv 3) pa_nil)))))))) (pss_one (ps_ret pe_bl)) pss_nil)))))))
    (pss_one (ps_ret pe_bl))), ?_⟩
  walk_at "uk"
  walk_at "uy"
  refine ⟨2, rfl, by decide, by decide, ?_⟩
  refine loopR (n := (2 : Int).toNat) (fun i σ' H' => Ex H H' ∧ ∃ o2 o3 o4 o5 o6 o7, σ' = [some (.ref p), some (.ref q), o2, o3, o4, o5, o6, o7]) ⟨exR H, none, none, none, none, none, none, rfl⟩ ?_ ?_
  · rintro σ' H' ⟨e, o2, o3, o4, o5, o6, o7, rfl⟩
    walk_at "uy"
    exact k H' e
  · rintro i σ' H1 hi ⟨e1, o2, o3, o4, o5, o6, o7, rfl⟩
    have hp1 := Ex.st hp e1
    have hq1 := Ex.st hq e1
    let g : Int → Int → Int := fun x y => if (0 + (i : Int)) = 0 then x + y else x - y
    have zl : (List.zipWith g xs ys).length = xs.length := by rw [List.length_zipWith]; omega
    walk_at "uy"
    refine ⟨_, rfl, by rw [List.length_map]; omega, by rw [List.length_map]; omega, ?_⟩
    refine lcRng (n := ((xs.map V.int).length : Int).toNat) (fun D j acc H' => Ex H1 H' ∧ H' D = some (.lst acc) ∧ acc = ((List.zipWith g xs ys).take j).map V.int) (fun D n => ⟨exN n, upd_same, rfl⟩) ?_ ?_
    · rintro D acc H2 nD ⟨e2, hD, rfl⟩
      rw [List.take_of_length_le (by rw [zl, List.length_map]; omega)] at hD
      walk_at "uy"
      refine s_tupOfL (.of hD) fun r H3 e3 hr => ?_
      have e13 := e2.tr e3
      walk_at "uy"
      refine ⟨.ref p, .ref q, 0 + (i : Int), xs, ys, rfl, ⟨p, rfl, Ex.st hp1 e13⟩, ⟨q, rfl, Ex.st hq1 e13⟩, hl, h100, fun t v H4 e4 hv ht => ?_⟩
      have hr4 := Ex.st hr e4
      walk_at "uy"
      refine loopT (xs := (List.zipWith g xs ys).map V.int) (fun j σ' H' => H4 = H' ∧ ∃ o7, σ' = [some (.ref p), some (.ref q), (some (.int (0 + (i : Int)))), (some (.ref r)), o4, (some (.ref t)), (some (.str (if inR ((List.zipWith g xs ys).take j) = true then "is" else "high"))), o7]) ⟨rfl, o7, rfl⟩ (fun j σ' H' h => by rw [← h.1]; exact hr4) ?_ ?_
      · rintro σ' _ ⟨rfl, o7, rfl⟩
        rw [List.length_map, List.take_length]
        walk_at "uy"
        rw [show (List.zipWith g xs ys) = (List.zipWith (fun x y => if 0 + (i : Int) = 0 then x + y else x - y) xs ys) from rfl, decide_eq_true rfl]
        walk_at "uy"
        refine ⟨v, .ref r, some (List.zipWith g xs ys), rfl, .inr ⟨_, rfl, hv⟩, .inr ⟨_, rfl, r, rfl, hr4⟩, ?_⟩
        walk_at "uy"
        exact ⟨(e1.tr e13).tr e4, _, _, _, _, _, _, rfl⟩
      · rintro j x σ' _ hx ⟨rfl, o7, rfl⟩
        obtain ⟨n, hn, rfl⟩ := int_get hx
        have tk : inR ((List.zipWith g xs ys).take (j + 1)) = (inR ((List.zipWith g xs ys).take j) && (decide (-9 ≤ n) && decide (n ≤ 9))) := by
          rw [List.take_add_one, hn]
          unfold inR
          rw [List.all_append]
          simp
        rw [tk]
        generalize inR ((List.zipWith g xs ys).take j) = b0
        walk_at "uy"
        refine s_ite (fun h1 => ?_) (fun h1 => ?_)
        · walk_at "uy"
          refine s_iteN (fun h2 => ?_) (fun h2 => ?_)
          · walk_at "uy"
            exact ⟨rfl, _, by rw [decide_eq_true h1, decide_eq_false h2]; cases b0 <;> rfl⟩
          · walk_at "uy"
            exact ⟨rfl, _, by rw [decide_eq_true h1, decide_eq_true h2]; cases b0 <;> rfl⟩
        · walk_at "uy"
          exact ⟨rfl, _, by rw [decide_eq_false h1]; cases b0 <;> rfl⟩
    · rintro D j acc H2 nD hj ⟨e2, hD, rfl⟩
      have hj' : j < xs.length := by rw [List.length_map] at hj; omega
      obtain ⟨x, hx⟩ : ∃ n, xs[j]? = some n := ⟨_, List.getElem?_eq_getElem hj'⟩
      obtain ⟨y, hy⟩ : ∃ n, ys[j]? = some n := ⟨_, List.getElem?_eq_getElem (by omega)⟩
      have ax : atI (xs.map V.int) (0 + (j : Int)) = some (.int x) := by rw [Int.zero_add]; exact atI_nat (by rw [List.getElem?_map, hx]; rfl)
      have ay : atI (ys.map V.int) (0 + (j : Int)) = some (.int y) := by rw [Int.zero_add]; exact atI_nat (by rw [List.getElem?_map, hy]; rfl)
      have zj : (List.zipWith g xs ys)[j]? = some (g x y) := by rw [List.getElem?_zipWith, hx, hy]
      have hp2 := Ex.st hp1 e2
      have hq2 := Ex.st hq1 e2
      have fin : ∃ acc, H2 D = some (.lst acc) ∧ acc.length < sizeLine ∧ ∃ acc', Ex H1 (upd H2 D (.lst (acc ++ [.int (g x y)]))) ∧ upd H2 D (.lst (acc ++ [.int (g x y)])) D = some (.lst acc') ∧ acc' = ((List.zipWith g xs ys).take (j + 1)).map V.int :=
        ⟨_, hD, by rw [List.length_map, List.length_take]; show _ < 16777216; omega, _, ex_put nD e2, upd_same, by rw [List.take_add_one, zj, List.map_append]; rfl⟩
      refine ⟨rfl, s_yes (s_iT ?_)⟩
      walk_at "uy"
      refine s_ite (fun h0 => ?_) (fun h0 => ?_)
      · walk_at "uy"
        refine s_ixT hp2 ax ?_
        walk_at "uy"
        refine s_ixT hq2 ay ?_
        walk_at "uy"
        rw [show g x y = x + y from if_pos h0] at fin
        exact fin
      · walk_at "uy"
        refine s_ixT hp2 ax ?_
        walk_at "uy"
        refine s_ixT hq2 ay ?_
        walk_at "uy"
        rw [show g x y = x - y from if_neg h0] at fin
        exact fin
end
end Lw

set_option Elab.async false
set_option linter.all false
set_option maxRecDepth 100000
set_option maxHeartbeats 4000000
namespace Lw
open PySem PySem.Spec L2 Uv
open PyProof.Rows hiding St
local macro_rules | `(tactic| walk_at "umul") => `(tactic| fail)
local macro_rules | `(tactic| walk_at "us1") => `(tactic| first
  | (with_reducible refine s_seq ?_) | (with_reducible refine s_asg ?_) | (with_reducible refine s_gn ?_) | (with_reducible refine s_ret ?_) | (with_reducible refine s_drop ?_) | (with_reducible refine s_if ?_) | (with_reducible refine s_next ?_)
  | (with_reducible refine s_brk ?_) | (with_reducible refine s_cont ?_)
  | ((with_reducible refine' s_var ?hv ?_); (case hv => exact rfl)) | (with_reducible refine s_c ?_) | (with_reducible refine s_op ?_) | (with_reducible refine s_un ?_) | (with_reducible refine s_cb ?_) | (with_reducible refine s_call ?_)
  | (with_reducible refine s_cons ?_) | (with_reducible refine s_nil ?_) | (with_reducible refine s_test ?_) | (with_reducible refine s_tB ?_) | (with_reducible refine s_not ?_) | (with_reducible refine s_and ?_) | (with_reducible refine s_or ?_)
  | (with_reducible refine s_andV ?_) | (with_reducible refine s_orV ?_) | (with_reducible refine s_notV ?_) | (with_reducible refine s_ifE ?_) | (with_reducible refine s_bl ?_) | (with_reducible refine s_iT ?_) | (with_reducible refine s_iF ?_)
  | (with_reducible refine s_I0 ?_) | (with_reducible refine s_U ?_) | (with_reducible refine s_addI ?_) | (with_reducible refine s_eqI ?_) | (with_reducible refine s_eqS ?_) | (with_reducible refine s_eqB ?_) | (with_reducible refine s_neI ?_) | (with_reducible refine s_neS ?_) | (with_reducible refine s_neB ?_)
  | (with_reducible refine s_tupE ?_) | (with_reducible refine s_lstE ?_))
local macro_rules | `(tactic| walk_at "us") => `(tactic| repeat walk_at "us1")
local macro_rules | `(tactic| walk_at "ulen") => `(tactic| (intro vs H Q E h; repeat' (first | (obtain ⟨e, _⟩ := h; subst e; rfl) | (subst h; rfl) | (refine Or.elim h (fun h => ?_) (fun h => ?_)) | (obtain ⟨_, h⟩ := h))))
local macro_rules | `(tactic| walk_at "uk") => `(tactic| (try dsimp only [cxOf, Cx.suite, Cx.tr]))
local macro_rules | `(tactic| walk_at "us2") => `(tactic| first
  | walk_at "us1" | (with_reducible refine s_dput ?_) | ((with_reducible refine' s_mod ?hc ?_); (case hc => first | decide | assumption | omega))
  | (with_reducible refine s_for ?_) | (with_reducible refine s_lc ?_) | (with_reducible refine s_bm ?_) | (with_reducible refine s_ilt ?_) | (with_reducible refine s_izx ?_) | (with_reducible refine s_ienum ?_) | (with_reducible refine s_din ?_) | (with_reducible refine s_dnotin ?_) | (with_reducible refine s_itl ?_) | (with_reducible refine s_itt ?_) | (with_reducible refine s_its ?_) | (with_reducible refine s_itr ?_) | (with_reducible refine s_itr2 ?_) | (with_reducible refine s_disp ?_) | (with_reducible refine s_prn ?_) | (with_reducible refine s_prc ?_) | (with_reducible refine s_m1 ?_) | (with_reducible refine s_isS ?_) | (with_reducible refine s_um1 ?_) | (with_reducible refine s_isB ?_) | (with_reducible refine s_isn ?_) | (with_reducible refine s_notn ?_) | (with_reducible refine s_jd ?_) | (with_reducible refine s_jn ?_) | (with_reducible refine s_jc ?_) | (with_reducible refine s_fmt ?_) | (with_reducible refine s_gc ?_) | (with_reducible refine s_gnil ?_) | (with_reducible refine s_yes ?_) | (with_reducible refine s_raise ?_)
  | ((with_reducible refine' s_pow ?hc ?_); (case hc => exact ⟨by decide, by decide, by decide⟩)) | (with_reducible refine s_int ?_) | (with_reducible refine s_intB ?_) | (with_reducible refine s_strS ?_) | (with_reducible refine s_abs ?_) | (with_reducible refine s_max ?_) | (with_reducible refine s_min ?_) | (with_reducible refine s_gcd ?_)
  | (with_reducible refine s_chain ?_) | (with_reducible refine s_sl ?_) | (with_reducible refine s_noP ?_) | (with_reducible refine s_part ?_) | (with_reducible refine s_exI ?_) 
  | ((with_reducible refine' s_mulI ?hc ?_); (case hc => first | exact Or.inl (Or.inr ⟨by decide, by decide⟩) | exact Or.inl (Or.inl ⟨by decide, by decide⟩) | exact Or.inl (Or.inl ⟨by omega, by omega⟩) | exact Or.inl (Or.inr ⟨by omega, by omega⟩) | walk_at "umul"))
  | ((with_reducible refine' s_ixT ?hc ?hd ?_); (case hc => assumption); (case hd => rfl))
  | ((with_reducible refine' s_lenL ?hc ?_); (case hc => first | assumption | exact SqL.of (by assumption))) | ((with_reducible refine' s_lenT ?hc ?_); (case hc => first | assumption | exact SqT.of (by assumption)))
  | ((with_reducible refine' s_divP ?hc ?hd ?_); (case hc => first | decide | assumption | omega); (case hd => first | decide +kernel | assumption)))
local macro_rules | `(tactic| walk_at "us") => `(tactic| repeat walk_at "us2")
local macro_rules | `(tactic| walk_at "uj") => `(tactic| ((walk_at "us"); with_reducible refine s_J ?_))
local macro_rules | `(tactic| walk_at "ua") => `(tactic| ((walk_at "us"); repeat ((with_reducible refine s_ick ?_); (first | (refine s_iF ?_) | (refine s_iT ?_)); (walk_at "us"))))
local macro_rules | `(tactic| walk_at "ub") => `(tactic| walk_at "ua")
local macro_rules | `(tactic| walk_at "ux1") => `(tactic| first
  | walk_at "us2" | ((with_reducible refine' s_ixL ?hc ?hd ?_); (case hc => first | assumption | exact SqL.of (by assumption)); (case hd => rfl)) | ((with_reducible refine' s_ixT ?hc ?hd ?_); (case hc => exact SqT.of (by assumption)); (case hd => rfl))
  | ((with_reducible refine' s_intS ?hc ?hd ?_); (case hc => assumption); (case hd => assumption)) | ((with_reducible refine' s_lenS ?hc ?_); (case hc => assumption)))
local macro_rules | `(tactic| walk_at "ux") => `(tactic| repeat walk_at "ux1")
local macro_rules | `(tactic| walk_at "uy") => `(tactic| ((walk_at "ux"); repeat ((with_reducible refine s_ick ?_); (first | (refine s_iF ?_) | (refine s_iT ?_)); (walk_at "ux"))))
local macro_rules | `(tactic| walk_at "uz0") => `(tactic| first
  | (with_reducible refine s_seq ?_) | (with_reducible refine s_asg ?_) | (with_reducible refine s_gn ?_) | (with_reducible refine s_ret ?_) | (with_reducible refine s_drop ?_) | (with_reducible refine s_if ?_) | (with_reducible refine s_next ?_)
  | (with_reducible refine s_brk ?_) | (with_reducible refine s_cont ?_)
  | ((with_reducible refine' s_var ?hv ?_); (case hv => exact rfl)) | (with_reducible refine s_c ?_) | (with_reducible refine s_op ?_) | (with_reducible refine s_un ?_) | (with_reducible refine s_cb ?_) | (with_reducible refine s_call ?_)
  | (with_reducible refine s_cons ?_) | (with_reducible refine s_nil ?_) | (with_reducible refine s_test ?_) | (with_reducible refine s_tB ?_) | (with_reducible refine s_not ?_) | (with_reducible refine s_and ?_) | (with_reducible refine s_or ?_)
  | (with_reducible refine s_andV ?_) | (with_reducible refine s_orV ?_) | (with_reducible refine s_notV ?_) | (with_reducible refine s_ifE ?_) | (with_reducible refine s_bl ?_) | (with_reducible refine s_iT ?_) | (with_reducible refine s_iF ?_)
  | (with_reducible refine s_I0 ?_) | (with_reducible refine s_U ?_) | (with_reducible refine s_addI ?_) | (with_reducible refine s_eqI ?_) | (with_reducible refine s_eqS ?_) | (with_reducible refine s_eqB ?_) | (with_reducible refine s_neI ?_) | (with_reducible refine s_neS ?_) | (with_reducible refine s_neB ?_))
local macro_rules | `(tactic| walk_at "uz2") => `(tactic| first
  | walk_at "uz0" | (with_reducible refine s_dput ?_) | ((with_reducible refine' s_mod ?hc ?_); (case hc => first | decide | assumption | omega))
  | (with_reducible refine s_for ?_) | (with_reducible refine s_lc ?_) | (with_reducible refine s_bm ?_) | (with_reducible refine s_ilt ?_) | (with_reducible refine s_izx ?_) | (with_reducible refine s_ienum ?_) | (with_reducible refine s_din ?_) | (with_reducible refine s_dnotin ?_) | (with_reducible refine s_itl ?_) | (with_reducible refine s_itt ?_) | (with_reducible refine s_its ?_) | (with_reducible refine s_itr ?_) | (with_reducible refine s_itr2 ?_) | (with_reducible refine s_disp ?_) | (with_reducible refine s_prn ?_) | (with_reducible refine s_prc ?_) | (with_reducible refine s_m1 ?_) | (with_reducible refine s_isS ?_) | (with_reducible refine s_um1 ?_) | (with_reducible refine s_isB ?_) | (with_reducible refine s_isn ?_) | (with_reducible refine s_notn ?_) | (with_reducible refine s_jd ?_) | (with_reducible refine s_jn ?_) | (with_reducible refine s_jc ?_) | (with_reducible refine s_fmt ?_) | (with_reducible refine s_gc ?_) | (with_reducible refine s_gnil ?_) | (with_reducible refine s_yes ?_) | (with_reducible refine s_raise ?_)
  | ((with_reducible refine' s_pow ?hc ?_); (case hc => exact ⟨by decide, by decide, by decide⟩)) | (with_reducible refine s_int ?_) | (with_reducible refine s_intB ?_) | (with_reducible refine s_strS ?_) | (with_reducible refine s_abs ?_) | (with_reducible refine s_max ?_) | (with_reducible refine s_min ?_) | (with_reducible refine s_gcd ?_)
  | (with_reducible refine s_chain ?_) | (with_reducible refine s_sl ?_) | (with_reducible refine s_noP ?_) | (with_reducible refine s_part ?_) | (with_reducible refine s_exI ?_) 
  | ((with_reducible refine' s_mulI ?hc ?_); (case hc => first | exact Or.inl (Or.inr ⟨by decide, by decide⟩) | exact Or.inl (Or.inl ⟨by decide, by decide⟩) | exact Or.inl (Or.inl ⟨by omega, by omega⟩) | exact Or.inl (Or.inr ⟨by omega, by omega⟩) | walk_at "umul"))
  | ((with_reducible refine' s_ixT ?hc ?hd ?_); (case hc => assumption); (case hd => rfl))
  | ((with_reducible refine' s_lenL ?hc ?_); (case hc => first | assumption | exact SqL.of (by assumption))) | ((with_reducible refine' s_lenT ?hc ?_); (case hc => first | assumption | exact SqT.of (by assumption)))
  | ((with_reducible refine' s_divP ?hc ?hd ?_); (case hc => first | decide | assumption | omega); (case hd => first | decide +kernel | assumption)))
local macro_rules | `(tactic| walk_at "uz1") => `(tactic| first
  | walk_at "uz2" | ((with_reducible refine' s_ixL ?hc ?hd ?_); (case hc => first | assumption | exact SqL.of (by assumption)); (case hd => rfl)) | ((with_reducible refine' s_ixT ?hc ?hd ?_); (case hc => exact SqT.of (by assumption)); (case hd => rfl))
  | ((with_reducible refine' s_intS ?hc ?hd ?_); (case hc => assumption); (case hd => assumption)) | ((with_reducible refine' s_lenS ?hc ?_); (case hc => assumption)))
local macro_rules | `(tactic| walk_at "uz") => `(tactic| ((repeat walk_at "uz1"); repeat ((with_reducible refine s_ick ?_); (first | (refine s_iF ?_) | (refine s_iT ?_)); (repeat walk_at "uz1"))))
def tupSmall (d : PyData) : Prop := match d with | .tuple ds => ds.length ≤ 1000 | _ => True
def DO (σ : L2.St) (to : TO) (o : Option Int) : Prop := ∀ (H : Hp) (Q : Option Int → Hp → Prop), Q o H → to σ H Q
def cutD (ds : List PyData) (lo hi : Option Int) : List PyData := (ds.drop (HT.sIx ds.length 0 lo)).take (HT.sIx ds.length ds.length hi - HT.sIx ds.length 0 lo)
section
variable {K : PySem.W.Frag} {σ : L2.St} {H0 H : Hp}
theorem dpa_drop : ∀ (n : Nat) {vs : List V} {ds : List PyData}, DpAll K H vs ds → DpAll K H (vs.drop n) (ds.drop n)
  | 0, _, _, h => h
  | n + 1, _, _, .nil => .nil
  | n + 1, _, _, .cons _ h => dpa_drop n h
theorem dpa_take : ∀ (n : Nat) {vs : List V} {ds : List PyData}, DpAll K H vs ds → DpAll K H (vs.take n) (ds.take n)
  | 0, _, _, _ => .nil
  | n + 1, _, _, .nil => .nil
  | n + 1, _, _, .cons a h => .cons a (dpa_take n h)
theorem do_no : DO σ tNoPart none := fun H Q q => q
theorem do_v {i : Nat} {j : Int} (h : σ[i]? = some (some (.int j))) : DO σ (tPart (tVar i)) (some j) := fun H Q q => ⟨_, h, j, rfl, q⟩
theorem do_v1 {i : Nat} {j c : Int} (h : σ[i]? = some (some (.int j))) : DO σ (tPart (tOp (uAdd K) (tVar i) (tC (.int c)))) (some (j + c)) := fun H Q q => ⟨_, h, _, rfl, q⟩
theorem do_s1 {i : Nat} {j c : Int} (h : σ[i]? = some (some (.int j))) : DO σ (tPart (tOp (rI0 fun i j => .int (i - j)) (tVar i) (tC (.int c)))) (some (j - c)) := fun H Q q => ⟨_, h, j, c, rfl, rfl, _, rfl, q⟩
theorem de_v {i : Nat} {v : V} {d : PyData} (h : σ[i]? = some (some v)) (hd : Dp K H0 v d) : DE K σ H0 (tVar i) d := fun H Q e q => ⟨v, h, q v H (exR H) (dp_ex e d v hd)⟩
theorem de_sl {i : Nat} {p : Addr} {xs : List V} {ds : List PyData} {tl th : TO} {lo hi : Option Int} (h : σ[i]? = some (some (.ref p))) (hs : SqT K H0 p xs) (hd : DpAll K H0 xs ds) (hl : DO σ tl lo) (hh : DO σ th hi) : DE K σ H0 (tSl (uSl K) (tVar i) tl th) (.tuple (cutD ds lo hi)) := fun H Q e q =>
  ⟨_, h, hl H _ (hh H _ (s_slT (Ex.st hs e) fun r H' e' hr => q _ H' e' (.tup hr (by
    have ll := dpa_length hd
    unfold cutV cutD
    rw [ll]
    exact dpa_take _ (dpa_drop _ (dpa_ex (e.tr e') ds xs hd))))))⟩
theorem de_cat {te tf : TE} {ds es : List PyData} (h1 : DE K σ H0 te (.tuple ds)) (h2 : DE K σ H0 tf (.tuple es)) (l : ds.length + es.length ≤ 1000) : DE K σ H0 (tOp (uAdd K) te tf) (.tuple (ds ++ es)) := fun H Q e q =>
  h1 H _ e fun v H1 e1 hv => h2 H1 _ (e.tr e1) fun w H2 e2 hw => by
    cases hv with
    | tup hs ha =>
      cases hw with
      | tup hs2 ha2 =>
        have l1 := dpa_length ha
        have l2 := dpa_length ha2
        exact s_catT (Ex.st hs e2) hs2 (by rw [l1, l2]; exact Nat.le_trans l (by decide)) fun r H3 e3 hr => q _ H3 ((e1.tr e2).tr e3) (.tup hr (dpa_app (dpa_ex (e2.tr e3) _ _ ha) (dpa_ex e3 _ _ ha2)))
theorem da_mono {H1 : Hp} {ts : TA} {ds : List PyData} (e : Ex H0 H1) (h : DA K σ H0 ts ds) : DA K σ H1 ts ds := fun H Q e' q => h H Q (e.tr e') q
theorem dpa_rep {v : V} {d : PyData} (h : Dp K H v d) : ∀ (n : Nat), DpAll K H (List.replicate n v) (List.replicate n d)
  | 0 => .nil
  | n + 1 => .cons h (dpa_rep h n)
theorem de_rep {i n : Nat} {te : TE} {d : PyData} (h : σ[i]? = some (some (.int (n : Int)))) (n1 : 1 ≤ n) (n2 : n ≤ 1000) (hd : DE K σ H0 te d) : DE K σ H0 (tOp (uMul K) (tTup (tCons te tNil)) (tVar i)) (.tuple (List.replicate n d)) := fun H Q e q =>
  hd H _ e fun v H1 e1 hv => ⟨Nat.le_of_ble_eq_true rfl, fun p np => ⟨_, h, s_repT (xs := [v]) (.of upd_same) (by simp) (by omega) (by omega) (Nat.le_of_ble_eq_true rfl) fun r H2 e2 hr => q _ H2 ((e1.tr (exN np)).tr e2) (.tup (by rw [rep1, Int.toNat_natCast] at hr; exact hr) (dpa_rep (dp_ex ((exN np).tr e2) d v hv) n))⟩⟩
theorem cutD_len (ds : List PyData) (lo hi : Option Int) : (cutD ds lo hi).length ≤ ds.length := by
  unfold cutD
  rw [List.length_take, List.length_drop]
  omega
end
theorem dim_no {ds : List PyData} {m : Int} (h : (ds.length : Int) ≠ m ∨ ∃ d ∈ ds, isIntegerD d (some (-9)) (some 9) = false) : isDimD (.tuple ds) m = false := by
  simp only [isDimD]
  rcases h with h | ⟨d, hm, hd⟩
  · rw [decide_eq_false h]; rfl
  · rw [show (ds.all fun d => isIntegerD d (some (-9)) (some 9)) = false from List.all_eq_false.mpr ⟨d, hm, by rw [hd]; exact Bool.false_ne_true⟩, Bool.and_false]
theorem isI_int (i : Int) : isIntegerD (.int i) (some (-9)) (some 9) = (decide (-9 ≤ i) && decide (i ≤ 9)) := rfl
theorem tos2 {x : Int} (h1 : -9 ≤ x) (h2 : x ≤ 9) : (Str.ofString (toString x)).length ≤ 2 ∧ x.natAbs.log2 < 1920 := by
  have h : ∀ j : Fin 19, (Str.ofString (toString ((j.val : Int) - 9))).length ≤ 2 ∧ ((j.val : Int) - 9).natAbs.log2 < 1920 := by decide +kernel
  have := h ⟨(x + 9).toNat, by omega⟩
  rw [show (((x + 9).toNat : Nat) : Int) - 9 = x by omega] at this
  exact this
theorem shownAll_ints : ∀ (xs : List Int), PyData.shownAll (xs.map PyData.int) = xs.map fun x => Str.ofString (toString x)
  | [] => rfl
  | x :: r => by rw [List.map_cons, PyData.shownAll, shownAll_ints r]; rfl
theorem inR_mem {xs : List Int} (h : inR xs = true) : ∀ x ∈ xs, -9 ≤ x ∧ x ≤ 9 := fun x hx => by
  have := List.all_eq_true.mp h x hx
  simpa using this
theorem shown_len {xs : List Int} (h : inR xs = true) (l : xs.length ≤ 4) : (PyData.tuple (xs.map PyData.int)).shown.length ≤ 1000 := by
  rw [PyData.shown, shownAll_ints]
  have hj := join_len ", " (xs.map fun x => Str.ofString (toString x))
  have hs := sum_le 2 (xs.map fun x => Str.ofString (toString x)) (fun y hy => by
    obtain ⟨x, hx, rfl⟩ := List.mem_map.mp hy
    have := inR_mem h x hx
    exact (tos2 this.1 this.2).1)
  rw [List.length_map] at hj hs
  have o2 : ((", " : Str)).length = 2 := rfl
  rw [o2, TL.join_eq] at hj
  show (("(" : Str) ++ Str.join ", " (xs.map fun x => Str.ofString (toString x)) ++ Str.ofString (if (xs.map fun x => Str.ofString (toString x)).length == 1 then ",)" else ")")).length ≤ 1000
  rw [app_len, app_len]
  have hb : ∀ c : Bool, (Str.ofString (if c = true then ",)" else ")")).length ≤ 2 := fun c => by cases c <;> decide +kernel
  have := hb ((xs.map fun x => Str.ofString (toString x)).length == 1)
  have o1 : (("(" : Str)).length = 1 := rfl
  rw [o1]
  omega
theorem showable_ints : ∀ {xs : List Int}, inR xs = true → PyData.showableAll (xs.map PyData.int) = true ∧ PyData.hasDictAll (xs.map PyData.int) = false
  | [], _ => ⟨rfl, rfl⟩
  | x :: r, h => by
    have hx := inR_mem h x List.mem_cons_self
    have hr : inR r = true := List.all_eq_true.mpr fun y hy => List.all_eq_true.mp h y (List.mem_cons_of_mem _ hy)
    obtain ⟨a, b⟩ := showable_ints hr
    rw [List.map_cons, PyData.showableAll, PyData.hasDictAll, a, b, PyData.showable, PyData.hasDict, decide_eq_true (tos2 hx.1 hx.2).2]
    exact ⟨rfl, rfl⟩
section
variable {P : Program} {w : World} {K : PySem.W.Frag} {mg : Str → Option Value} {base : Heap}
variable {cE cH cU cW : Addr}
theorem ok_l_right_kinds (T : Tp P K mg cE cH cU cW)
    (c_is_dimension : Cal P w K mg base 2 "is_dimension" P_is_dimension [] (spIsDim K))
    (c_l_pick : Cal P w K mg base 1 "_law_pick" P_l_pick [] (spPick))
    {f : Addr} {fd : FuncData} {dvs : List V} (F : FunD K "_law_right_kinds" "_law_right_kinds" (defArgs s_l_right_kinds) (defBody s_l_right_kinds) (defScope s_l_right_kinds) dvs [] f fd) : FnG P w K mg base 3 f fd P_l_right_kinds (spRightKinds K) := by
  refine fng F sc_l_right_kinds (by walk_at "ulen") (fun cdv A outer s H vs Q E hr0 hg0 h => ?_)
  have hr : Rm 2 (A.deeper (envOfC "_law_right_kinds" (defScope s_l_right_kinds) s.heap.objs.size f cdv)) := ⟨hr0, hg0⟩
  have nd : N_l_right_kinds.Nodup := sc_l_right_kinds.nd
  have po : PassesOwn (model P w) (cxOf (L2.CX P w) P w K mg base N_l_right_kinds "_law_right_kinds" (defScope s_l_right_kinds) f cdv A outer s H E).A (cxOf (L2.CX P w) P w K mg base N_l_right_kinds "_law_right_kinds" (defScope s_l_right_kinds) f cdv A outer s H E).env (cxOf (L2.CX P w) P w K mg base N_l_right_kinds "_law_right_kinds" (defScope s_l_right_kinds) f cdv A outer s H E).xe := passes_of rfl
  obtain ⟨b, a, xs, rfl, hb, ⟨q, rfl, hq⟩, h1, h4, hin, k⟩ := h
  refine ⟨_, (pss_cons (ps_set (i := 2) nd rfl (Or.inl rfl) (pe_callB call_uLen (by rfl) T.len b_len (pa_cons (pv 1) pa_nil)))
    (pss_cons (ps_set (i := 3) nd rfl (Or.inl rfl) (pe_c (E := En) c_l_pick (hr.mono (by decide)) paN (pa_cons (pv 0) (pa_cons (pv 2) pa_nil))))
    (pss_cons (ps_set (i := 4) nd rfl (Or.inl rfl) (pe_lst (pa_cons (pe_callTy call_uList (by rfl) T.list b_list (pa_cons (pv 1) pa_nil)) (pa_cons (pe_op op_uAdd (pv 1) (pe_tup (pa_cons pe_int pa_nil))) (pa_cons (pe_slice sl_u (pv 1) po_none (po_some (pe_op op_sub (pv 2) pe_int))) (pa_cons (pe_op op_uAdd (pe_op op_uAdd (pe_slice sl_u (pv 1) po_none (po_some (pv 3))) (pe_tup (pa_cons pe_int pa_nil))) (pe_slice sl_u (pv 1) (po_some (pe_op op_uAdd (pv 3) pe_int)) po_none)) (pa_cons (pe_op op_uAdd (pe_op op_uAdd (pe_slice sl_u (pv 1) po_none (po_some (pv 3))) (pe_tup (pa_cons (pe_un un_neg pe_int) pa_nil))) (pe_slice sl_u (pv 1) (po_some (pe_op op_uAdd (pv 3) pe_int)) po_none)) (pa_cons pe_non (pa_cons pe_int (pa_cons (pe_callTy (call_uStrD hr) (by rfl) T.str b_str (pa_cons (pv 1) pa_nil)) pa_nil))))))))))
    (pss_cons (ps_set (i := 4) nd rfl (Or.inl rfl) (pe_op op_uAdd (pv 4) (pe_lst (pa_cons (pe_op op_uAdd (pe_op op_uAdd (pe_slice sl_u (pv 1) po_none (po_some (pv 3))) (pe_tup (pa_cons pe_bl pa_nil))) (pe_slice sl_u (pv 1) (po_some (pe_op op_uAdd (pv 3) pe_int)) po_none)) (pa_cons (pe_op op_uAdd (pe_op op_uAdd (pe_slice sl_u (pv 1) po_none (po_some (pv 3))) (pe_tup (pa_cons pe_non pa_nil))) (pe_slice sl_u (pv 1) (po_some (pe_op op_uAdd (pv 3) pe_int)) po_none)) (pa_cons (pe_op op_uAdd (pe_op op_uAdd (pe_slice sl_u (pv 1) po_none (po_some (pv 3))) (pe_tup (pa_cons pe_str pa_nil))) (pe_slice sl_u (pv 1) (po_some (pe_op op_uAdd (pv 3) pe_int)) po_none)) (pa_cons (pe_tup (pa_cons (pv 1) pa_nil)) pa_nil)))))))
    (pss_cons (ps_set (i := 4) nd rfl (Or.inl rfl) (pe_op op_uAdd (pv 4) (pe_lst (pa_cons (pe_op op_uAdd (pe_op op_uAdd (pe_slice sl_u (pv 1) po_none (po_some (pv 3))) (pe_tup (pa_cons (pe_tup (pa_cons pe_int pa_nil)) pa_nil))) (pe_slice sl_u (pv 1) (po_some (pe_op op_uAdd (pv 3) pe_int)) po_none)) (pa_cons (pe_op op_uAdd (pe_op op_uAdd (pe_slice sl_u (pv 1) po_none (po_some (pv 3))) (pe_tup (pa_cons (pe_op op_pow pe_int pe_int) pa_nil))) (pe_slice sl_u (pv 1) (po_some (pe_op op_uAdd (pv 3) pe_int)) po_none)) pa_nil)))))
    (pss_cons (ps_for po rfl (pi_list (pv 4)) (pg_name (i := 5) nd rfl (Or.inl rfl))
    (pss_one (ps_if (pt_cmpR op_uNotB (pe_c (E := En) c_is_dimension (hr.mono (by decide)) paN (pa_cons (pv 5) (pa_cons (pv 2) pa_nil))) pe_bl (nomark _)) (pss_one (ps_ret pe_bl)) pss_nil)))
    (pss_cons (ps_for po rfl (pi_list (pe_lst (pa_cons (pv 1) (pa_cons (pe_op op_uMul (pe_tup (pa_cons pe_int pa_nil)) (pv 2)) (pa_cons (pe_op op_uMul (pe_tup (pa_cons pe_int pa_nil)) (pv 2)) (pa_cons (pe_op op_uMul (pe_tup (pa_cons (pe_un un_neg pe_int) pa_nil)) (pv 2)) pa_nil)))))) (pg_name (i := 5) nd rfl (Or.inl rfl))
    (pss_one (ps_if (PW.pt (pw_or (pt_cmpR op_uNotB (pe_c (E := En) c_is_dimension (hr.mono (by decide)) paN (pa_cons (pv 5) (pa_cons (pv 2) pa_nil))) pe_bl (nomark _)) (pw_or1 (pt_cmpR op_uNotB (pe_c (E := En) c_is_dimension (hr.mono (by decide)) paN (pa_cons (pv 5) (pa_cons (pe_op op_uAdd (pv 2) pe_int) pa_nil))) pe_bl (nomark _))))) (pss_one (ps_ret pe_bl)) pss_nil)))
    (pss_one (ps_ret pe_bl))))))))), ?_⟩
  walk_at "uk"
  walk_at "uz"
  refine ⟨b, _, rfl, hb, by rw [List.length_map]; omega, lt_log9000 (by rw [List.length_map]; omega), fun at_ H1 a0 a1 k1 => ?_⟩
  have hq1 := k1.t hq
  have lx : (xs.map PyData.int).length = xs.length := List.length_map _
  have dv : DpAll K H1 (xs.map V.int) (xs.map PyData.int) := dpa_ints xs
  have hv := tupI_dp hq1
  have cl : ∀ lo hi, (cutD (xs.map PyData.int) lo hi).length ≤ 4 := fun lo hi => by have := cutD_len (xs.map PyData.int) lo hi; omega
  have mid : ∀ d : PyData, isIntegerD d (some (-9)) (some 9) = false → isDimD (.tuple (cutD (xs.map PyData.int) none (some at_) ++ [d] ++ cutD (xs.map PyData.int) (some (at_ + 1)) none)) (xs.length : Int) = false := fun d hd => dim_no (.inr ⟨d, by simp, hd⟩)
  rw [List.length_map] at a1
  walk_at "uz"
  have demid : ∀ {σ : L2.St} {te : TE} {d : PyData}, σ[1]? = some (some (.ref q)) → σ[3]? = some (some (.int at_)) → DE K σ H1 te d → DE K σ H1 (tOp (uAdd K) (tOp (uAdd K) (tSl (uSl K) (tVar 1) tNoPart (tPart (tVar 3))) (tTup (tCons te tNil))) (tSl (uSl K) (tVar 1) (tPart (tOp (uAdd K) (tVar 3) (tC (.int 1)))) tNoPart)) (.tuple (cutD (xs.map PyData.int) none (some at_) ++ [d] ++ cutD (xs.map PyData.int) (some (at_ + 1)) none)) := fun s1 s3 hd =>
    de_cat (de_cat (de_sl s1 hq1 dv do_no (do_v s3)) (de_tup (da_cons hd da_nil) (Nat.le_of_ble_eq_true rfl)) (by have := cl none (some at_); simp; omega)) (de_sl s1 hq1 dv (do_v1 s3) do_no) (by have := cl none (some at_); have := cl (some (at_ + 1)) none; simp; omega)
  refine s_dlst (da_cons (d := .list (xs.map PyData.int)) (de_listT rfl hq1 dv).h (da_cons (de_cat (de_v rfl hv) (de_tup (da_cons (de_int 0) da_nil) (by decide)) (by rw [lx]; show _ + 1 ≤ _; omega)) (da_cons (de_sl rfl hq1 dv do_no (do_s1 rfl)) (da_cons (demid rfl rfl (de_int 10)) (da_cons (demid rfl rfl (de_neg 10)) (da_cons de_non (da_cons (de_int 5) (da_cons (d := .str (PyData.tuple (xs.map PyData.int)).shown) ?_ da_nil)))))))) (Nat.le_of_ble_eq_true rfl) ?_
  · exact fun H' Q e hq' => ⟨_, rfl, _, dp_ex e _ _ hv, (showable_ints hin).1, (showable_ints hin).2, by rw [PyData.depth, depth_ints]; decide, Nat.le_trans (shown_len hin h4) (by decide), hq' _ _ (exR H') (.str _)⟩
  intro l vs H2 e2 f2 d2
  walk_at "uz"
  refine s_dlst (da_mono e2 (da_cons (demid rfl rfl (de_bl true)) (da_cons (demid rfl rfl de_non) (da_cons (demid rfl rfl (de_str "1")) (da_cons (de_tup (da_cons (de_v rfl hv) da_nil) (Nat.le_of_ble_eq_true rfl)) da_nil))))) (Nat.le_of_ble_eq_true rfl) ?_
  intro l2 vs2 H3 e3 f3 d3
  refine s_addL (e3 _ _ f2) f3 (by rw [dpa_length d2, dpa_length d3]; exact Nat.le_of_ble_eq_true rfl) fun l3 nl3 => ?_
  have e23 := e2.tr e3
  have e4 := e23.tr (exN (o := .lst (vs ++ vs2)) nl3)
  have d4 := dpa_app (dpa_ex (e3.tr (exN (o := .lst (vs ++ vs2)) nl3)) _ _ d2) (dpa_ex (exN (o := .lst (vs ++ vs2)) nl3) _ _ d3)
  have f4 : upd H3 l3 (.lst (vs ++ vs2)) l3 = some (.lst (vs ++ vs2)) := upd_same
  generalize upd H3 l3 (.lst (vs ++ vs2)) = H4 at e4 d4 f4
  generalize vs ++ vs2 = ws at d4 f4
  walk_at "uz"
  have de30 : ∀ {σ : L2.St}, DE K σ H1 (tOp (rI CPow fun i j => .int (i ^ j.toNat)) (tC (.int 10)) (tC (.int 30))) (.int (10 ^ Int.toNat 30)) := fun H Q e q => ⟨10, 30, rfl, rfl, ⟨by decide, by decide, by decide⟩, q _ H (exR H) (.int _)⟩
  refine s_dlst (da_mono e4 (da_cons (demid rfl rfl (de_tup (da_cons (de_int 1) da_nil) (Nat.le_of_ble_eq_true rfl))) (da_cons (demid rfl rfl de30) da_nil))) (Nat.le_of_ble_eq_true rfl) ?_
  intro l5 vs5 H5 e5 f5 d5
  refine s_addL (e5 _ _ f4) f5 (by rw [dpa_length d4, dpa_length d5]; exact Nat.le_of_ble_eq_true rfl) fun l6 nl6 => ?_
  have e6 := (e4.tr e5).tr (exN (o := .lst (ws ++ vs5)) nl6)
  have d6 := dpa_app (dpa_ex (e5.tr (exN (o := .lst (ws ++ vs5)) nl6)) _ _ d4) (dpa_ex (exN (o := .lst (ws ++ vs5)) nl6) _ _ d5)
  have f6 : upd H5 l6 (.lst (ws ++ vs5)) l6 = some (.lst (ws ++ vs5)) := upd_same
  generalize upd H5 l6 (.lst (ws ++ vs5)) = H6 at e6 d6 f6
  generalize ws ++ vs5 = us at d6 f6
  walk_at "uz"
  have k6 := k1.tr (e6.kb k1.b1)
  refine loopL (xs := us) (fun i σ' H' => Ex H6 H' ∧ ∃ o5, σ' = [some (.ref b), some (.ref q), (some (.int ((xs.map V.int).length : Int))), (some (.int at_)), (some (.ref l6)), o5]) ⟨exR _, none, rfl⟩ (fun i σ' H' h => .of (h.1 _ _ f6)) ?_ ?_
  · rintro σ' H7 ⟨e7, o5, rfl⟩
    walk_at "uz"
    have e17 := e6.tr e7
    have mn : ((xs.map V.int).length : Int) = ((xs.length : Nat) : Int) := by rw [List.length_map]
    rw [mn]
    refine s_dlst (da_mono e17 (da_cons (de_v rfl hv) (da_cons (de_rep rfl h1 (by omega) (de_int 0)) (da_cons (de_rep rfl h1 (by omega) (de_int 9)) (da_cons (de_rep rfl h1 (by omega) (de_neg 9)) da_nil))))) (Nat.le_of_ble_eq_true rfl) ?_
    intro l8 vs8 H8 e8 f8 d8
    walk_at "uz"
    refine loopL (xs := vs8) (fun i σ' H' => Ex H8 H' ∧ ∃ o5, σ' = [some (.ref b), some (.ref q), (some (.int ((xs.length : Nat) : Int))), (some (.int at_)), (some (.ref l6)), o5]) ⟨exR _, o5, rfl⟩ (fun i σ' H' h => .of (h.1 _ _ f8)) ?_ ?_
    · rintro σ' H9 ⟨e9, o5, rfl⟩
      walk_at "uz"
      exact k H9 (k1.tr (((e17.tr e8).tr e9).kb k1.b1))
    · rintro i x σ' H9 hx ⟨e9, o5, rfl⟩
      obtain ⟨d, _, hm, hd⟩ := dpa_get d8 hx
      have rp : ∀ x : Int, -9 ≤ x → x ≤ 9 → ∃ ys : List Int, PyData.tuple (List.replicate xs.length (.int x)) = .tuple (ys.map PyData.int) ∧ ys.length = xs.length ∧ inR ys = true := fun x x1 x2 => ⟨List.replicate xs.length x, by rw [List.map_replicate], List.length_replicate, List.all_eq_true.mpr fun y hy => by rw [(List.mem_replicate.mp hy).2]; simp; omega⟩
      have hyes : ∃ ys : List Int, d = .tuple (ys.map PyData.int) ∧ ys.length = xs.length ∧ inR ys = true := by
        simp only [List.mem_cons, List.not_mem_nil, or_false] at hm
        rcases hm with rfl | rfl | rfl | rfl
        · exact ⟨xs, rfl, rfl, hin⟩
        · exact rp 0 (by decide) (by decide)
        · exact rp 9 (by decide) (by decide)
        · exact rp (-9) (by decide) (by decide)
      obtain ⟨ys, rfl, yl, yr⟩ := hyes
      have sm : (ys.map PyData.int).length ≤ 1000 := by rw [List.length_map]; omega
      have y1 : isDimD (.tuple (ys.map PyData.int)) (xs.length : Int) = true := by rw [← yl, isDim_ints]; exact yr
      have y2 : isDimD (.tuple (ys.map PyData.int)) ((xs.length : Int) + 1) = false := dim_no (.inl (by rw [List.length_map]; omega))
      walk_at "uz"
      refine ⟨x, _, _, rfl, dp_ex e9 _ x hd, sm, fun HA eA => ?_⟩
      rw [y1]
      walk_at "uz"
      refine ⟨x, _, _, rfl, dp_ex (e9.tr eA) _ x hd, sm, fun HB eB => ?_⟩
      rw [y2]
      walk_at "uz"
      exact ⟨(e9.tr eA).tr eB, _, rfl⟩
  · rintro i x σ' H7 hx ⟨e7, o5, rfl⟩
    obtain ⟨d, _, hm, hd⟩ := dpa_get d6 hx
    have hno : isDimD d (xs.length : Int) = false ∧ tupSmall d := by
      have cA := cl none (some at_)
      have cB := cl (some (at_ + 1)) none
      have ml : ∀ z : PyData, (cutD (xs.map PyData.int) none (some at_) ++ [z] ++ cutD (xs.map PyData.int) (some (at_ + 1)) none).length ≤ 1000 := fun z => by simp; omega
      simp only [List.cons_append, List.nil_append, List.mem_cons, List.not_mem_nil, or_false] at hm
      rcases hm with rfl | rfl | rfl | rfl | rfl | rfl | rfl | rfl | rfl | rfl | rfl | rfl | rfl | rfl
      · exact ⟨rfl, trivial⟩
      · exact ⟨dim_no (.inl (by rw [List.length_append, lx]; show ((xs.length + 1 : Nat) : Int) ≠ _; omega)), by show (_ ++ _ : List PyData).length ≤ 1000; rw [List.length_append, lx]; show _ + 1 ≤ _; omega⟩
      · have nn : ((xs.map V.int).length : Int) - 1 = (((xs.map PyData.int).length - 1 : Nat) : Int) := by rw [List.length_map, List.length_map]; omega
        have ll : (cutD (xs.map PyData.int) none (some (((xs.map V.int).length : Int) - 1))).length = xs.length - 1 := by
          unfold cutD
          rw [nn, HT.sIx_none, HT.sIx_nat, List.drop_zero, List.length_take, lx]
          omega
        exact ⟨dim_no (.inl (by rw [ll]; omega)), by show (cutD _ _ _).length ≤ 1000; rw [ll]; omega⟩
      · exact ⟨mid _ rfl, ml _⟩
      · exact ⟨mid _ rfl, ml _⟩
      · exact ⟨rfl, trivial⟩
      · exact ⟨rfl, trivial⟩
      · exact ⟨rfl, trivial⟩
      · exact ⟨mid _ rfl, ml _⟩
      · exact ⟨mid _ rfl, ml _⟩
      · exact ⟨mid _ rfl, ml _⟩
      · exact ⟨dim_no (.inr ⟨_, List.mem_singleton.mpr rfl, rfl⟩), Nat.le_of_ble_eq_true rfl⟩
      · exact ⟨mid _ rfl, ml _⟩
      · exact ⟨mid _ (by decide +kernel), ml _⟩
    walk_at "uz"
    refine ⟨x, d, _, rfl, dp_ex e7 d x hd, hno.2, fun H8 e8 => ?_⟩
    rw [show isDimD d ((xs.map V.int).length : Int) = false by rw [List.length_map]; exact hno.1]
    walk_at "uz"
    exact ⟨e7.tr e8, _, rfl⟩
end
end Lw

set_option Elab.async false
set_option linter.all false
set_option maxRecDepth 100000
set_option maxHeartbeats 4000000
namespace Lw
open PySem PySem.Spec L2 Uv
open PyProof.Rows hiding St
local macro_rules | `(tactic| walk_at "umul") => `(tactic| fail)
local macro_rules | `(tactic| walk_at "us1") => `(tactic| first
  | (with_reducible refine s_seq ?_) | (with_reducible refine s_asg ?_) | (with_reducible refine s_gn ?_) | (with_reducible refine s_ret ?_) | (with_reducible refine s_drop ?_) | (with_reducible refine s_if ?_) | (with_reducible refine s_next ?_)
  | (with_reducible refine s_brk ?_) | (with_reducible refine s_cont ?_)
  | ((with_reducible refine' s_var ?hv ?_); (case hv => exact rfl)) | (with_reducible refine s_c ?_) | (with_reducible refine s_op ?_) | (with_reducible refine s_un ?_) | (with_reducible refine s_cb ?_) | (with_reducible refine s_call ?_)
  | (with_reducible refine s_cons ?_) | (with_reducible refine s_nil ?_) | (with_reducible refine s_test ?_) | (with_reducible refine s_tB ?_) | (with_reducible refine s_not ?_) | (with_reducible refine s_and ?_) | (with_reducible refine s_or ?_)
  | (with_reducible refine s_andV ?_) | (with_reducible refine s_orV ?_) | (with_reducible refine s_notV ?_) | (with_reducible refine s_ifE ?_) | (with_reducible refine s_bl ?_) | (with_reducible refine s_iT ?_) | (with_reducible refine s_iF ?_)
  | (with_reducible refine s_I0 ?_) | (with_reducible refine s_U ?_) | (with_reducible refine s_addI ?_) | (with_reducible refine s_eqI ?_) | (with_reducible refine s_eqS ?_) | (with_reducible refine s_eqB ?_) | (with_reducible refine s_neI ?_) | (with_reducible refine s_neS ?_) | (with_reducible refine s_neB ?_)
  | (with_reducible refine s_tupE ?_) | (with_reducible refine s_lstE ?_))
local macro_rules | `(tactic| walk_at "us") => `(tactic| repeat walk_at "us1")
local macro_rules | `(tactic| walk_at "ulen") => `(tactic| (intro vs H Q E h; repeat' (first | (obtain ⟨e, _⟩ := h; subst e; rfl) | (subst h; rfl) | (refine Or.elim h (fun h => ?_) (fun h => ?_)) | (obtain ⟨_, h⟩ := h))))
local macro_rules | `(tactic| walk_at "uk") => `(tactic| (try dsimp only [cxOf, Cx.suite, Cx.tr]))
local macro_rules | `(tactic| walk_at "us2") => `(tactic| first
  | walk_at "us1" | (with_reducible refine s_dput ?_) | ((with_reducible refine' s_mod ?hc ?_); (case hc => first | decide | assumption | omega))
  | (with_reducible refine s_for ?_) | (with_reducible refine s_lc ?_) | (with_reducible refine s_bm ?_) | (with_reducible refine s_ilt ?_) | (with_reducible refine s_izx ?_) | (with_reducible refine s_ienum ?_) | (with_reducible refine s_din ?_) | (with_reducible refine s_dnotin ?_) | (with_reducible refine s_itl ?_) | (with_reducible refine s_itt ?_) | (with_reducible refine s_its ?_) | (with_reducible refine s_itr ?_) | (with_reducible refine s_itr2 ?_) | (with_reducible refine s_disp ?_) | (with_reducible refine s_prn ?_) | (with_reducible refine s_prc ?_) | (with_reducible refine s_m1 ?_) | (with_reducible refine s_isS ?_) | (with_reducible refine s_um1 ?_) | (with_reducible refine s_isB ?_) | (with_reducible refine s_isn ?_) | (with_reducible refine s_notn ?_) | (with_reducible refine s_jd ?_) | (with_reducible refine s_jn ?_) | (with_reducible refine s_jc ?_) | (with_reducible refine s_fmt ?_) | (with_reducible refine s_gc ?_) | (with_reducible refine s_gnil ?_) | (with_reducible refine s_yes ?_) | (with_reducible refine s_raise ?_)
  | ((with_reducible refine' s_pow ?hc ?_); (case hc => exact ⟨by decide, by decide, by decide⟩)) | (with_reducible refine s_int ?_) | (with_reducible refine s_intB ?_) | (with_reducible refine s_strS ?_) | (with_reducible refine s_abs ?_) | (with_reducible refine s_max ?_) | (with_reducible refine s_min ?_) | (with_reducible refine s_gcd ?_)
  | (with_reducible refine s_chain ?_) | (with_reducible refine s_sl ?_) | (with_reducible refine s_noP ?_) | (with_reducible refine s_part ?_) | (with_reducible refine s_exI ?_) 
  | ((with_reducible refine' s_mulI ?hc ?_); (case hc => first | exact Or.inl (Or.inr ⟨by decide, by decide⟩) | exact Or.inl (Or.inl ⟨by decide, by decide⟩) | exact Or.inl (Or.inl ⟨by omega, by omega⟩) | exact Or.inl (Or.inr ⟨by omega, by omega⟩) | walk_at "umul"))
  | ((with_reducible refine' s_ixT ?hc ?hd ?_); (case hc => assumption); (case hd => rfl))
  | ((with_reducible refine' s_lenL ?hc ?_); (case hc => first | assumption | exact SqL.of (by assumption))) | ((with_reducible refine' s_lenT ?hc ?_); (case hc => first | assumption | exact SqT.of (by assumption)))
  | ((with_reducible refine' s_divP ?hc ?hd ?_); (case hc => first | decide | assumption | omega); (case hd => first | decide +kernel | assumption)))
local macro_rules | `(tactic| walk_at "us") => `(tactic| repeat walk_at "us2")
local macro_rules | `(tactic| walk_at "uj") => `(tactic| ((walk_at "us"); with_reducible refine s_J ?_))
local macro_rules | `(tactic| walk_at "ua") => `(tactic| ((walk_at "us"); repeat ((with_reducible refine s_ick ?_); (first | (refine s_iF ?_) | (refine s_iT ?_)); (walk_at "us"))))
local macro_rules | `(tactic| walk_at "ub") => `(tactic| walk_at "ua")
local macro_rules | `(tactic| walk_at "ux1") => `(tactic| first
  | walk_at "us2" | ((with_reducible refine' s_ixL ?hc ?hd ?_); (case hc => first | assumption | exact SqL.of (by assumption)); (case hd => rfl)) | ((with_reducible refine' s_ixT ?hc ?hd ?_); (case hc => exact SqT.of (by assumption)); (case hd => rfl))
  | ((with_reducible refine' s_intS ?hc ?hd ?_); (case hc => assumption); (case hd => assumption)) | ((with_reducible refine' s_lenS ?hc ?_); (case hc => assumption)))
local macro_rules | `(tactic| walk_at "ux") => `(tactic| repeat walk_at "ux1")
local macro_rules | `(tactic| walk_at "uy") => `(tactic| ((walk_at "ux"); repeat ((with_reducible refine s_ick ?_); (first | (refine s_iF ?_) | (refine s_iT ?_)); (walk_at "ux"))))
local macro_rules | `(tactic| walk_at "uz0") => `(tactic| first
  | (with_reducible refine s_seq ?_) | (with_reducible refine s_asg ?_) | (with_reducible refine s_gn ?_) | (with_reducible refine s_ret ?_) | (with_reducible refine s_drop ?_) | (with_reducible refine s_if ?_) | (with_reducible refine s_next ?_)
  | (with_reducible refine s_brk ?_) | (with_reducible refine s_cont ?_)
  | ((with_reducible refine' s_var ?hv ?_); (case hv => exact rfl)) | (with_reducible refine s_c ?_) | (with_reducible refine s_op ?_) | (with_reducible refine s_un ?_) | (with_reducible refine s_cb ?_) | (with_reducible refine s_call ?_)
  | (with_reducible refine s_cons ?_) | (with_reducible refine s_nil ?_) | (with_reducible refine s_test ?_) | (with_reducible refine s_tB ?_) | (with_reducible refine s_not ?_) | (with_reducible refine s_and ?_) | (with_reducible refine s_or ?_)
  | (with_reducible refine s_andV ?_) | (with_reducible refine s_orV ?_) | (with_reducible refine s_notV ?_) | (with_reducible refine s_ifE ?_) | (with_reducible refine s_bl ?_) | (with_reducible refine s_iT ?_) | (with_reducible refine s_iF ?_)
  | (with_reducible refine s_I0 ?_) | (with_reducible refine s_U ?_) | (with_reducible refine s_addI ?_) | (with_reducible refine s_eqI ?_) | (with_reducible refine s_eqS ?_) | (with_reducible refine s_eqB ?_) | (with_reducible refine s_neI ?_) | (with_reducible refine s_neS ?_) | (with_reducible refine s_neB ?_))
local macro_rules | `(tactic| walk_at "uz2") => `(tactic| first
  | walk_at "uz0" | (with_reducible refine s_dput ?_) | ((with_reducible refine' s_mod ?hc ?_); (case hc => first | decide | assumption | omega))
  | (with_reducible refine s_for ?_) | (with_reducible refine s_lc ?_) | (with_reducible refine s_bm ?_) | (with_reducible refine s_ilt ?_) | (with_reducible refine s_izx ?_) | (with_reducible refine s_ienum ?_) | (with_reducible refine s_din ?_) | (with_reducible refine s_dnotin ?_) | (with_reducible refine s_itl ?_) | (with_reducible refine s_itt ?_) | (with_reducible refine s_its ?_) | (with_reducible refine s_itr ?_) | (with_reducible refine s_itr2 ?_) | (with_reducible refine s_disp ?_) | (with_reducible refine s_prn ?_) | (with_reducible refine s_prc ?_) | (with_reducible refine s_m1 ?_) | (with_reducible refine s_isS ?_) | (with_reducible refine s_um1 ?_) | (with_reducible refine s_isB ?_) | (with_reducible refine s_isn ?_) | (with_reducible refine s_notn ?_) | (with_reducible refine s_jd ?_) | (with_reducible refine s_jn ?_) | (with_reducible refine s_jc ?_) | (with_reducible refine s_fmt ?_) | (with_reducible refine s_gc ?_) | (with_reducible refine s_gnil ?_) | (with_reducible refine s_yes ?_) | (with_reducible refine s_raise ?_)
  | ((with_reducible refine' s_pow ?hc ?_); (case hc => exact ⟨by decide, by decide, by decide⟩)) | (with_reducible refine s_int ?_) | (with_reducible refine s_intB ?_) | (with_reducible refine s_strS ?_) | (with_reducible refine s_abs ?_) | (with_reducible refine s_max ?_) | (with_reducible refine s_min ?_) | (with_reducible refine s_gcd ?_)
  | (with_reducible refine s_chain ?_) | (with_reducible refine s_sl ?_) | (with_reducible refine s_noP ?_) | (with_reducible refine s_part ?_) | (with_reducible refine s_exI ?_) 
  | ((with_reducible refine' s_mulI ?hc ?_); (case hc => first | exact Or.inl (Or.inr ⟨by decide, by decide⟩) | exact Or.inl (Or.inl ⟨by decide, by decide⟩) | exact Or.inl (Or.inl ⟨by omega, by omega⟩) | exact Or.inl (Or.inr ⟨by omega, by omega⟩) | walk_at "umul"))
  | ((with_reducible refine' s_ixT ?hc ?hd ?_); (case hc => assumption); (case hd => rfl))
  | ((with_reducible refine' s_lenL ?hc ?_); (case hc => first | assumption | exact SqL.of (by assumption))) | ((with_reducible refine' s_lenT ?hc ?_); (case hc => first | assumption | exact SqT.of (by assumption)))
  | ((with_reducible refine' s_divP ?hc ?hd ?_); (case hc => first | decide | assumption | omega); (case hd => first | decide +kernel | assumption)))
local macro_rules | `(tactic| walk_at "uz1") => `(tactic| first
  | walk_at "uz2" | ((with_reducible refine' s_ixL ?hc ?hd ?_); (case hc => first | assumption | exact SqL.of (by assumption)); (case hd => rfl)) | ((with_reducible refine' s_ixT ?hc ?hd ?_); (case hc => exact SqT.of (by assumption)); (case hd => rfl))
  | ((with_reducible refine' s_intS ?hc ?hd ?_); (case hc => assumption); (case hd => assumption)) | ((with_reducible refine' s_lenS ?hc ?_); (case hc => assumption)))
local macro_rules | `(tactic| walk_at "uz") => `(tactic| ((repeat walk_at "uz1"); repeat ((with_reducible refine s_ick ?_); (first | (refine s_iF ?_) | (refine s_iT ?_)); (repeat walk_at "uz1"))))
theorem zip_dummy : True := trivial
section
variable {P : Program} {w : World} {K : PySem.W.Frag} {mg : Str → Option Value} {base : Heap}
variable {cE cH cU cW : Addr}
theorem ok_l_right_bases (T : Tp P K mg cE cH cU cW)
    (c_l_base_told : Cal P w K mg base 3 "_law_base_told" P_l_base_told [] (spBaseTold K))
    (c_l_same : Cal P w K mg base 2 "_law_same" P_l_same [] (spSame K))
    {f : Addr} {fd : FuncData} {dvs : List V} (F : FunD K "_law_right_bases" "_law_right_bases" (defArgs s_l_right_bases) (defBody s_l_right_bases) (defScope s_l_right_bases) dvs [] f fd) : FnG P w K mg base 4 f fd P_l_right_bases (spRightBases K) := by
  refine fng F sc_l_right_bases (by walk_at "ulen") (fun cdv A outer s H vs Q E hr0 hg0 h => ?_)
  have hr : Rm 3 (A.deeper (envOfC "_law_right_bases" (defScope s_l_right_bases) s.heap.objs.size f cdv)) := ⟨hr0, hg0⟩
  have nd : N_l_right_bases.Nodup := sc_l_right_bases.nd
  have po : PassesOwn (model P w) (cxOf (L2.CX P w) P w K mg base N_l_right_bases "_law_right_bases" (defScope s_l_right_bases) f cdv A outer s H E).A (cxOf (L2.CX P w) P w K mg base N_l_right_bases "_law_right_bases" (defScope s_l_right_bases) f cdv A outer s H E).env (cxOf (L2.CX P w) P w K mg base N_l_right_bases "_law_right_bases" (defScope s_l_right_bases) f cdv A outer s H E).xe := passes_of rfl
  obtain ⟨p, zs, rfl, hp, N, h2, h7, k⟩ := h
  refine ⟨_, (pss_cons (ps_set (i := 1) nd rfl (Or.inl rfl) (pe_slice sl_u (pv 0) po_none (po_some (pe_callB (call_uMin rfl) (by rfl) T.min b_min (pa_cons pe_int (pa_cons (pe_op op_sub (pe_callB call_uLen (by rfl) T.len b_len (pa_cons (pv 0) pa_nil)) pe_int) pa_nil))))))
    (pss_cons (ps_for po rfl (pi_range1 (by rfl) T.range (pa_cons (pe_callB call_uLen (by rfl) T.len b_len (pa_cons (pv 1) pa_nil)) pa_nil)) (pg_name (i := 2) nd rfl (Or.inr rfl))
    (pss_cons (ps_set (i := 3) nd rfl (Or.inl rfl) (pe_callTy call_uTup (by rfl) T.tuple b_tuple (pa_cons (pe_lc (own := [("_law_step", 4)]) (g := gName 4) (by rfl) nd (pi_range1 (by rfl) T.range (pa_cons (pe_callB call_uLen (by rfl) T.len b_len (pa_cons (pv 1) pa_nil)) pa_nil)) (blkOk_by (own := [("_law_step", 4)]) (N := N_l_right_bases) (sc := defScope s_l_right_bases) (by decide +kernel)) (fun s_ H_ C_ cl_ fp_ => pg_name (i := 4) nd rfl (Or.inl rfl)) (fun s_ H_ C_ cl_ fp_ => pts_nil) (fun s_ H_ C_ cl_ fp_ => (pe_ifExp (pt_cmpR (op_uEqK (K := K) rfl hr.r.units) (pv 4) (pv 2) (nomark _)) pe_int pe_int))) pa_nil)))
    (pss_one (ps_for po rfl (pi_list (pe_lst (pa_cons (pe_callTy call_uList (by rfl) T.list b_list (pa_cons (pv 1) pa_nil)) (pa_cons (pe_callTy call_uTup (by rfl) T.tuple b_tuple (pa_cons (pv 1) pa_nil)) pa_nil)))) (pg_name (i := 5) nd rfl (Or.inl rfl))
    (pss_cons (ps_set (i := 6) nd rfl (Or.inl rfl) (pe_c (E := En) c_l_base_told (hr.mono (by decide)) paN (pa_cons (pv 5) (pa_cons (pe_ix ix_seq (pv 1) (pv 2) (fun _ _ => rfl)) pa_nil))))
    (pss_one (ps_if (PW.pt (pw_or (pt_cmpR (op_uNe hr.r.units) (pe_ix ix_seq (pv 6) pe_int (fun _ _ => rfl)) pe_str (nomark _)) (pw_or1 (pt_not (pt_val (pe_c (E := En) c_l_same (hr.mono (by decide)) paN (pa_cons (pe_ix ix_seq (pv 6) pe_int (fun _ _ => rfl)) (pa_cons (pv 3) pa_nil)))))))) (pss_one (ps_ret pe_bl)) pss_nil)))))))
    (pss_cons (ps_for po rfl (pi_list (pe_lst (pa_cons (pe_ix ix_seq (pv 0) (pe_op op_sub (pe_callB call_uLen (by rfl) T.len b_len (pa_cons (pv 0) pa_nil)) pe_int) (fun _ _ => rfl)) (pa_cons pe_str (pa_cons (pe_op op_uAdd (pe_ix ix_seq (pv 1) pe_int (fun _ _ => rfl)) (pe_op op_uMul pe_str pe_int)) pa_nil))))) (pg_name (i := 7) nd rfl (Or.inl rfl))
    (pss_cons (ps_set (i := 6) nd rfl (Or.inl rfl) (pe_c (E := En) c_l_base_told (hr.mono (by decide)) paN (pa_cons (pe_callTy call_uList (by rfl) T.list b_list (pa_cons (pv 1) pa_nil)) (pa_cons (pv 7) pa_nil))))
    (pss_one (ps_if (PW.pt (pw_or (pt_cmpR (op_uNe hr.r.units) (pe_ix ix_seq (pv 6) pe_int (fun _ _ => rfl)) pe_str (nomark _)) (pw_or1 (pt_cmpR (op_uNe hr.r.units) (pe_ix ix_seq (pv 6) pe_int (fun _ _ => rfl)) (pv 7) (nomark _))))) (pss_one (ps_ret pe_bl)) pss_nil))))
    (pss_one (ps_ret pe_bl))))), ?_⟩
  walk_at "uk"
  walk_at "uy"
  refine s_slL hp fun q H1 e1 hq => ?_
  have ecut : cutV (zs.map V.str) none (some (min 4 (((zs.map V.str).length : Int) - 1))) = ((zs.take (min 4 (zs.length - 1))).map V.str) := by
    have nn : min (4 : Int) (((zs.map V.str).length : Int) - 1) = ((min 4 (zs.length - 1) : Nat) : Int) := by rw [List.length_map]; omega
    unfold cutV
    rw [nn, HT.sIx_none, HT.sIx_nat, List.drop_zero, List.length_map, Nat.sub_zero, Nat.min_eq_left (by omega), List.map_take]
  rw [ecut] at hq
  have bl : (zs.take (min 4 (zs.length - 1))).length = min 4 (zs.length - 1) := by rw [List.length_take]; omega
  have bnd : (zs.take (min 4 (zs.length - 1))).Nodup := (List.take_sublist _ _).nodup N.nd
  have blast : ∀ z, zs[zs.length - 1]? = some z → z ∉ zs.take (min 4 (zs.length - 1)) := fun z hz hm => by
    obtain ⟨j, hj⟩ := List.mem_iff_getElem?.mp hm
    have hjl := (List.getElem?_eq_some_iff.mp hj).1
    rw [bl] at hjl
    rw [List.getElem?_take, if_pos hjl] at hj
    have := nodup_inj N.nd hj hz
    omega
  have bis : ∀ z ∈ zs.take (min 4 (zs.length - 1)), NameIs z := fun z hz => N.each z (List.mem_of_mem_take hz)
  have hp1 := Ex.sl hp e1
  generalize zs.take (min 4 (zs.length - 1)) = bs at hq bl bnd blast bis
  walk_at "uy"
  refine ⟨_, rfl, by rw [List.length_map]; omega, by rw [List.length_map]; omega, ?_⟩
  refine loopR (n := ((bs.map V.str).length : Int).toNat) (fun i σ' H' => Ex H1 H' ∧ ∃ o2 o3 o4 o5 o6 o7, σ' = [some (.ref p), (some (.ref q)), o2, o3, o4, o5, o6, o7]) ⟨exR _, none, none, none, none, none, none, rfl⟩ ?_ ?_
  · rintro σ' H2 ⟨e2, o2, o3, o4, o5, o6, o7, rfl⟩
    walk_at "uy"
    refine s_lenL (Ex.sl hp1 e2) ?_
    obtain ⟨zl, hzl⟩ : ∃ n, zs[zs.length - 1]? = some n := ⟨_, List.getElem?_eq_getElem (by omega)⟩
    have al : atI (zs.map V.str) (((zs.map V.str).length : Int) - 1) = some (.str zl) := by
      rw [show ((zs.map V.str).length : Int) - 1 = ((zs.length - 1 : Nat) : Int) by rw [List.length_map]; omega]
      exact atI_nat (by rw [List.getElem?_map, hzl]; rfl)
    obtain ⟨b0, hb0⟩ : ∃ n, bs[0]? = some n := ⟨_, List.getElem?_eq_getElem (by omega)⟩
    have a0 : atI (bs.map V.str) 0 = some (.str b0) := atI_nat (j := 0) (by rw [List.getElem?_map, hb0]; rfl)
    have hq2 := e2 _ _ hq
    walk_at "uy"
    refine s_ixL (Ex.sl hp1 e2) al ?_
    walk_at "uy"
    refine s_ixL (.of hq2) a0 ?_
    walk_at "uy"
    refine s_mulS ⟨by decide +kernel, fun _ _ => by decide +kernel, fun _ _ => by decide +kernel⟩ ?_
    have lm : (Txt.mul ("x" : Str) 12).length = 12 := by decide +kernel
    generalize Txt.mul ("x" : Str) 12 = x12 at lm
    have lb0 := (bis b0 (List.mem_of_getElem? hb0))
    have lb1 := lb0.l2
    have lb2 := lb0.l1
    refine s_addS (by rw [lm]; show _ ≤ 16777216; omega) ?_
    walk_at "uy"
    refine s_szN (Nat.le_of_ble_eq_true rfl) fun l nl => ?_
    have e3 := e2.tr (exN (o := .lst [.str zl, .str "", .str (b0 ++ x12)]) nl)
    have f3 : upd H2 l (.lst [.str zl, .str "", .str (b0 ++ x12)]) l = some (.lst ([zl, "", b0 ++ x12].map V.str)) := upd_same
    generalize upd H2 l (.lst [.str zl, .str "", .str (b0 ++ x12)]) = H3 at e3 f3
    have out : ∀ y ∈ [zl, "", b0 ++ x12], y ∉ bs := fun y hy => by
      simp only [List.mem_cons, List.not_mem_nil, or_false] at hy
      rcases hy with rfl | rfl | rfl
      · exact blast _ hzl
      · exact fun hm => absurd (bis _ hm).l1 (by decide)
      · exact fun hm => by
          have := (bis _ hm).l2
          rw [app_len, lm] at this
          omega
    generalize [zl, "", b0 ++ x12] = ys at f3 out
    have hq3 := e3 _ _ hq
    refine loopL (xs := ys.map V.str) (fun i σ' H' => Ex H3 H' ∧ ∃ o6 o7, σ' = [some (.ref p), (some (.ref q)), o2, o3, o4, o5, o6, o7]) ⟨exR _, o6, o7, rfl⟩ (fun i σ' H' h => .of (h.1 _ _ f3)) ?_ ?_
    · rintro σ' H4 ⟨e4, o6, o7, rfl⟩
      walk_at "uy"
      exact k H4 ((e1.tr e3).tr e4)
    · rintro i x σ' H4 hx ⟨e4, o6, o7, rfl⟩
      obtain ⟨y, hy, rfl⟩ := str_get hx
      have hno := out y (List.mem_of_getElem? hy)
      walk_at "uy"
      refine s_listL (.of (e4 _ _ hq3)) fun l2 nl2 => ?_
      walk_at "uy"
      have e5 := e4.tr (exN (o := .lst (bs.map V.str)) nl2)
      refine ⟨l2, y, bs, rfl, .inl (.of upd_same), by omega, fun hin => absurd hin hno, fun _ u H6 e6 hu => ?_⟩
      walk_at "uy"
      rw [decide_eq_true rfl]
      walk_at "uy"
      exact ⟨e5.tr e6, _, _, rfl⟩
  · rintro i σ' H2 hi ⟨e2, o2, o3, o4, o5, o6, o7, rfl⟩
    have hi' : i < bs.length := by rw [List.length_map] at hi; omega
    have hq2 := e2 _ _ hq
    obtain ⟨n, hn⟩ : ∃ n, bs[i]? = some n := ⟨_, List.getElem?_eq_getElem hi'⟩
    have an : atI (bs.map V.str) (0 + (i : Int)) = some (.str n) := by rw [Int.zero_add]; exact atI_nat (by rw [List.getElem?_map, hn]; rfl)
    walk_at "uy"
    refine ⟨_, rfl, by rw [List.length_map]; omega, by rw [List.length_map]; omega, ?_⟩
    refine lcRng (n := ((bs.map V.str).length : Int).toNat) (fun D j acc H' => Ex H2 H' ∧ H' D = some (.lst acc) ∧ acc = ((baseV bs n).take j).map V.int) (fun D n => ⟨exN n, upd_same, rfl⟩) ?_ ?_
    · rintro D acc H3 nD ⟨e3, hD, rfl⟩
      rw [List.take_of_length_le (by unfold baseV; rw [List.length_map, List.length_map]; omega)] at hD
      walk_at "uy"
      refine s_tupOfL (.of hD) fun r H4 e4 hr => ?_
      have hq4 := (e3.tr e4) _ _ hq2
      walk_at "uy"
      refine s_listL (.of hq4) fun l nl => ?_
      walk_at "uy"
      have e5 := exN (o := .lst (bs.map V.str)) nl
      have f5 : upd H4 l (.lst (bs.map V.str)) l = some (.lst (bs.map V.str)) := upd_same
      have hq5 := e5 _ _ hq4
      have hr5 := Ex.st hr e5
      generalize upd H4 l (.lst (bs.map V.str)) = H5 at e5 f5 hq5 hr5
      refine s_tupOfL (.of hq5) fun t H6 e6 ht => ?_
      walk_at "uy"
      refine s_szN (Nat.le_of_ble_eq_true rfl) fun d nd => ?_
      have e7 := e6.tr (exN (o := .lst [.ref l, .ref t]) nd)
      have f7 : upd H6 d (.lst [.ref l, .ref t]) d = some (.lst [.ref l, .ref t]) := upd_same
      have fl := e7 _ _ f5
      have ft := Ex.st ht (exN (o := .lst [.ref l, .ref t]) nd)
      have hq7 := e7 _ _ hq5
      have hr7 := Ex.st hr5 e7
      generalize upd H6 d (.lst [.ref l, .ref t]) = H7 at e7 f7 fl ft hq7 hr7
      have e17 := (((e3.tr e4).tr e5).tr e7)
      refine loopL (xs := [.ref l, .ref t]) (fun j σ' H' => Ex H7 H' ∧ ∃ o5 o6, σ' = [some (.ref p), (some (.ref q)), (some (.int (0 + (i : Int)))), (some (.ref r)), o4, o5, o6, o7]) ⟨exR _, _, _, rfl⟩ (fun j σ' H' h => .of (h.1 _ _ f7)) ?_ ?_
      · rintro σ' H8 ⟨e8, o5, o6, rfl⟩
        walk_at "uy"
        exact ⟨(e2.tr e17).tr e8, _, _, _, _, _, _, rfl⟩
      · rintro j x σ' H8 hx ⟨e8, o5, o6, rfl⟩
        have hrow : ∃ a, x = .ref a ∧ SqA K H8 a (bs.map V.str) := by
          have := List.mem_of_getElem? hx
          simp only [List.mem_cons, List.not_mem_nil, or_false] at this
          rcases this with rfl | rfl
          · exact ⟨l, rfl, .inl (.of (e8 _ _ fl))⟩
          · exact ⟨t, rfl, .inr (Ex.st ft e8)⟩
        obtain ⟨a, rfl, ha⟩ := hrow
        walk_at "uy"
        refine s_ixL (.of (e8 _ _ hq7)) an ?_
        walk_at "uy"
        refine ⟨a, n, bs, rfl, ha, by omega, fun _ u v H9 e9 hv hu => ?_, fun hno => absurd (List.mem_of_getElem? hn) hno⟩
        walk_at "uy"
        refine ⟨v, .ref r, some (baseV bs n), rfl, .inr ⟨_, rfl, hv⟩, .inr ⟨_, rfl, r, rfl, Ex.st hr7 (e8.tr e9)⟩, ?_⟩
        walk_at "uy"
        exact ⟨e8.tr e9, _, _, rfl⟩
    · rintro D j acc H3 nD hj ⟨e3, hD, rfl⟩
      have hj' : j < bs.length := by rw [List.length_map] at hj; omega
      obtain ⟨m, hm⟩ : ∃ n, bs[j]? = some n := ⟨_, List.getElem?_eq_getElem hj'⟩
      have bj : (baseV bs n)[j]? = some (if j = i then 1 else 0) := by
        unfold baseV
        rw [List.getElem?_map, hm]
        show some (if m = n then (1 : Int) else 0) = _
        by_cases e : j = i
        · subst e
          rw [hn] at hm
          cases hm
          rw [if_pos rfl, if_pos rfl]
        · rw [if_neg e, if_neg (fun q => e (nodup_inj bnd hm (by rw [q]; exact hn)))]
      refine ⟨rfl, s_yes (s_iT ?_)⟩
      walk_at "uy"
      have fin : ∀ x : Int, x = (if j = i then 1 else 0) → ∃ acc, H3 D = some (.lst acc) ∧ acc.length < sizeLine ∧ ∃ acc', Ex H2 (upd H3 D (.lst (acc ++ [.int x]))) ∧ upd H3 D (.lst (acc ++ [.int x])) D = some (.lst acc') ∧ acc' = ((baseV bs n).take (j + 1)).map V.int := fun x ex =>
        ⟨_, hD, by rw [List.length_map, List.length_take]; show _ < 16777216; unfold baseV; rw [List.length_map]; omega, _, ex_put nD e3, upd_same, by rw [List.take_add_one, bj, List.map_append, ex]; rfl⟩
      refine s_ite (fun h0 => ?_) (fun h0 => ?_)
      · walk_at "uy"
        exact fin 1 (by rw [if_pos (by omega)])
      · walk_at "uy"
        exact fin 0 (by rw [if_neg (by omega)])
end
end Lw

set_option Elab.async false
set_option linter.all false
set_option maxRecDepth 100000
set_option maxHeartbeats 4000000
namespace Lw
open PySem PySem.Spec L2 Uv
open PyProof.Rows hiding St
local macro_rules | `(tactic| walk_at "umul") => `(tactic| fail)
local macro_rules | `(tactic| walk_at "us1") => `(tactic| first
  | (with_reducible refine s_seq ?_) | (with_reducible refine s_asg ?_) | (with_reducible refine s_gn ?_) | (with_reducible refine s_ret ?_) | (with_reducible refine s_drop ?_) | (with_reducible refine s_if ?_) | (with_reducible refine s_next ?_)
  | (with_reducible refine s_brk ?_) | (with_reducible refine s_cont ?_)
  | ((with_reducible refine' s_var ?hv ?_); (case hv => exact rfl)) | (with_reducible refine s_c ?_) | (with_reducible refine s_op ?_) | (with_reducible refine s_un ?_) | (with_reducible refine s_cb ?_) | (with_reducible refine s_call ?_)
  | (with_reducible refine s_cons ?_) | (with_reducible refine s_nil ?_) | (with_reducible refine s_test ?_) | (with_reducible refine s_tB ?_) | (with_reducible refine s_not ?_) | (with_reducible refine s_and ?_) | (with_reducible refine s_or ?_)
  | (with_reducible refine s_andV ?_) | (with_reducible refine s_orV ?_) | (with_reducible refine s_notV ?_) | (with_reducible refine s_ifE ?_) | (with_reducible refine s_bl ?_) | (with_reducible refine s_iT ?_) | (with_reducible refine s_iF ?_)
  | (with_reducible refine s_I0 ?_) | (with_reducible refine s_U ?_) | (with_reducible refine s_addI ?_) | (with_reducible refine s_eqI ?_) | (with_reducible refine s_eqS ?_) | (with_reducible refine s_eqB ?_) | (with_reducible refine s_neI ?_) | (with_reducible refine s_neS ?_) | (with_reducible refine s_neB ?_)
  | (with_reducible refine s_tupE ?_) | (with_reducible refine s_lstE ?_))
local macro_rules | `(tactic| walk_at "us") => `(tactic| repeat walk_at "us1")
local macro_rules | `(tactic| walk_at "ulen") => `(tactic| (intro vs H Q E h; repeat' (first | (obtain ⟨e, _⟩ := h; subst e; rfl) | (subst h; rfl) | (refine Or.elim h (fun h => ?_) (fun h => ?_)) | (obtain ⟨_, h⟩ := h))))
local macro_rules | `(tactic| walk_at "uk") => `(tactic| (try dsimp only [cxOf, Cx.suite, Cx.tr]))
local macro_rules | `(tactic| walk_at "us2") => `(tactic| first
  | walk_at "us1" | (with_reducible refine s_dput ?_) | ((with_reducible refine' s_mod ?hc ?_); (case hc => first | decide | assumption | omega))
  | (with_reducible refine s_for ?_) | (with_reducible refine s_lc ?_) | (with_reducible refine s_bm ?_) | (with_reducible refine s_ilt ?_) | (with_reducible refine s_izx ?_) | (with_reducible refine s_ienum ?_) | (with_reducible refine s_din ?_) | (with_reducible refine s_dnotin ?_) | (with_reducible refine s_itl ?_) | (with_reducible refine s_itt ?_) | (with_reducible refine s_its ?_) | (with_reducible refine s_itr ?_) | (with_reducible refine s_itr2 ?_) | (with_reducible refine s_disp ?_) | (with_reducible refine s_prn ?_) | (with_reducible refine s_prc ?_) | (with_reducible refine s_m1 ?_) | (with_reducible refine s_isS ?_) | (with_reducible refine s_um1 ?_) | (with_reducible refine s_isB ?_) | (with_reducible refine s_isn ?_) | (with_reducible refine s_notn ?_) | (with_reducible refine s_jd ?_) | (with_reducible refine s_jn ?_) | (with_reducible refine s_jc ?_) | (with_reducible refine s_fmt ?_) | (with_reducible refine s_gc ?_) | (with_reducible refine s_gnil ?_) | (with_reducible refine s_yes ?_) | (with_reducible refine s_raise ?_)
  | ((with_reducible refine' s_pow ?hc ?_); (case hc => exact ⟨by decide, by decide, by decide⟩)) | (with_reducible refine s_int ?_) | (with_reducible refine s_intB ?_) | (with_reducible refine s_strS ?_) | (with_reducible refine s_abs ?_) | (with_reducible refine s_max ?_) | (with_reducible refine s_min ?_) | (with_reducible refine s_gcd ?_)
  | (with_reducible refine s_chain ?_) | (with_reducible refine s_sl ?_) | (with_reducible refine s_noP ?_) | (with_reducible refine s_part ?_) | (with_reducible refine s_exI ?_) 
  | ((with_reducible refine' s_mulI ?hc ?_); (case hc => first | exact Or.inl (Or.inr ⟨by decide, by decide⟩) | exact Or.inl (Or.inl ⟨by decide, by decide⟩) | exact Or.inl (Or.inl ⟨by omega, by omega⟩) | exact Or.inl (Or.inr ⟨by omega, by omega⟩) | walk_at "umul"))
  | ((with_reducible refine' s_ixT ?hc ?hd ?_); (case hc => assumption); (case hd => rfl))
  | ((with_reducible refine' s_lenL ?hc ?_); (case hc => first | assumption | exact SqL.of (by assumption))) | ((with_reducible refine' s_lenT ?hc ?_); (case hc => first | assumption | exact SqT.of (by assumption)))
  | ((with_reducible refine' s_divP ?hc ?hd ?_); (case hc => first | decide | assumption | omega); (case hd => first | decide +kernel | assumption)))
local macro_rules | `(tactic| walk_at "us") => `(tactic| repeat walk_at "us2")
local macro_rules | `(tactic| walk_at "uj") => `(tactic| ((walk_at "us"); with_reducible refine s_J ?_))
local macro_rules | `(tactic| walk_at "ua") => `(tactic| ((walk_at "us"); repeat ((with_reducible refine s_ick ?_); (first | (refine s_iF ?_) | (refine s_iT ?_)); (walk_at "us"))))
local macro_rules | `(tactic| walk_at "ub") => `(tactic| walk_at "ua")
local macro_rules | `(tactic| walk_at "ux1") => `(tactic| first
  | walk_at "us2" | ((with_reducible refine' s_ixL ?hc ?hd ?_); (case hc => first | assumption | exact SqL.of (by assumption)); (case hd => rfl)) | ((with_reducible refine' s_ixT ?hc ?hd ?_); (case hc => exact SqT.of (by assumption)); (case hd => rfl))
  | ((with_reducible refine' s_intS ?hc ?hd ?_); (case hc => assumption); (case hd => assumption)) | ((with_reducible refine' s_lenS ?hc ?_); (case hc => assumption)))
local macro_rules | `(tactic| walk_at "ux") => `(tactic| repeat walk_at "ux1")
local macro_rules | `(tactic| walk_at "uy") => `(tactic| ((walk_at "ux"); repeat ((with_reducible refine s_ick ?_); (first | (refine s_iF ?_) | (refine s_iT ?_)); (walk_at "ux"))))
local macro_rules | `(tactic| walk_at "uz0") => `(tactic| first
  | (with_reducible refine s_seq ?_) | (with_reducible refine s_asg ?_) | (with_reducible refine s_gn ?_) | (with_reducible refine s_ret ?_) | (with_reducible refine s_drop ?_) | (with_reducible refine s_if ?_) | (with_reducible refine s_next ?_)
  | (with_reducible refine s_brk ?_) | (with_reducible refine s_cont ?_)
  | ((with_reducible refine' s_var ?hv ?_); (case hv => exact rfl)) | (with_reducible refine s_c ?_) | (with_reducible refine s_op ?_) | (with_reducible refine s_un ?_) | (with_reducible refine s_cb ?_) | (with_reducible refine s_call ?_)
  | (with_reducible refine s_cons ?_) | (with_reducible refine s_nil ?_) | (with_reducible refine s_test ?_) | (with_reducible refine s_tB ?_) | (with_reducible refine s_not ?_) | (with_reducible refine s_and ?_) | (with_reducible refine s_or ?_)
  | (with_reducible refine s_andV ?_) | (with_reducible refine s_orV ?_) | (with_reducible refine s_notV ?_) | (with_reducible refine s_ifE ?_) | (with_reducible refine s_bl ?_) | (with_reducible refine s_iT ?_) | (with_reducible refine s_iF ?_)
  | (with_reducible refine s_I0 ?_) | (with_reducible refine s_U ?_) | (with_reducible refine s_addI ?_) | (with_reducible refine s_eqI ?_) | (with_reducible refine s_eqS ?_) | (with_reducible refine s_eqB ?_) | (with_reducible refine s_neI ?_) | (with_reducible refine s_neS ?_) | (with_reducible refine s_neB ?_))
local macro_rules | `(tactic| walk_at "uz2") => `(tactic| first
  | walk_at "uz0" | (with_reducible refine s_dput ?_) | ((with_reducible refine' s_mod ?hc ?_); (case hc => first | decide | assumption | omega))
  | (with_reducible refine s_for ?_) | (with_reducible refine s_lc ?_) | (with_reducible refine s_bm ?_) | (with_reducible refine s_ilt ?_) | (with_reducible refine s_izx ?_) | (with_reducible refine s_ienum ?_) | (with_reducible refine s_din ?_) | (with_reducible refine s_dnotin ?_) | (with_reducible refine s_itl ?_) | (with_reducible refine s_itt ?_) | (with_reducible refine s_its ?_) | (with_reducible refine s_itr ?_) | (with_reducible refine s_itr2 ?_) | (with_reducible refine s_disp ?_) | (with_reducible refine s_prn ?_) | (with_reducible refine s_prc ?_) | (with_reducible refine s_m1 ?_) | (with_reducible refine s_isS ?_) | (with_reducible refine s_um1 ?_) | (with_reducible refine s_isB ?_) | (with_reducible refine s_isn ?_) | (with_reducible refine s_notn ?_) | (with_reducible refine s_jd ?_) | (with_reducible refine s_jn ?_) | (with_reducible refine s_jc ?_) | (with_reducible refine s_fmt ?_) | (with_reducible refine s_gc ?_) | (with_reducible refine s_gnil ?_) | (with_reducible refine s_yes ?_) | (with_reducible refine s_raise ?_)
  | ((with_reducible refine' s_pow ?hc ?_); (case hc => exact ⟨by decide, by decide, by decide⟩)) | (with_reducible refine s_int ?_) | (with_reducible refine s_intB ?_) | (with_reducible refine s_strS ?_) | (with_reducible refine s_abs ?_) | (with_reducible refine s_max ?_) | (with_reducible refine s_min ?_) | (with_reducible refine s_gcd ?_)
  | (with_reducible refine s_chain ?_) | (with_reducible refine s_sl ?_) | (with_reducible refine s_noP ?_) | (with_reducible refine s_part ?_) | (with_reducible refine s_exI ?_) 
  | ((with_reducible refine' s_mulI ?hc ?_); (case hc => first | exact Or.inl (Or.inr ⟨by decide, by decide⟩) | exact Or.inl (Or.inl ⟨by decide, by decide⟩) | exact Or.inl (Or.inl ⟨by omega, by omega⟩) | exact Or.inl (Or.inr ⟨by omega, by omega⟩) | walk_at "umul"))
  | ((with_reducible refine' s_ixT ?hc ?hd ?_); (case hc => assumption); (case hd => rfl))
  | ((with_reducible refine' s_lenL ?hc ?_); (case hc => first | assumption | exact SqL.of (by assumption))) | ((with_reducible refine' s_lenT ?hc ?_); (case hc => first | assumption | exact SqT.of (by assumption)))
  | ((with_reducible refine' s_divP ?hc ?hd ?_); (case hc => first | decide | assumption | omega); (case hd => first | decide +kernel | assumption)))
local macro_rules | `(tactic| walk_at "uz1") => `(tactic| first
  | walk_at "uz2" | ((with_reducible refine' s_ixL ?hc ?hd ?_); (case hc => first | assumption | exact SqL.of (by assumption)); (case hd => rfl)) | ((with_reducible refine' s_ixT ?hc ?hd ?_); (case hc => exact SqT.of (by assumption)); (case hd => rfl))
  | ((with_reducible refine' s_intS ?hc ?hd ?_); (case hc => assumption); (case hd => assumption)) | ((with_reducible refine' s_lenS ?hc ?_); (case hc => assumption)))
local macro_rules | `(tactic| walk_at "uz") => `(tactic| ((repeat walk_at "uz1"); repeat ((with_reducible refine s_ick ?_); (first | (refine s_iF ?_) | (refine s_iT ?_)); (repeat walk_at "uz1"))))
theorem name_yes {z : Str} (h : NameIs z) : isNameD (.str z) = true := by
  simp only [isNameD]
  rw [decide_eq_true h.l1, decide_eq_true h.l2, decide_eq_false h.own]
  rw [List.all_eq_true.mpr fun c hc => ?_]
  · rfl
  · have := h.low c hc
    have h6 : ∀ d : Fin 26, (("abcdefghijklmnopqrstuvwxyz" : Str).cps.toList.contains (97 + d.val)) = true := by decide +kernel
    have := h6 ⟨c - 97, by omega⟩
    rw [show 97 + (c - 97) = c by omega] at this
    exact this
theorem name_no {z : Str} {c : Nat} (h : c ∈ z.cps.toList) (hc : ¬ (97 ≤ c ∧ c ≤ 122)) : isNameD (.str z) = false := by
  simp only [isNameD]
  rw [show (z.cps.toList.all fun c => ("abcdefghijklmnopqrstuvwxyz" : Str).cps.toList.contains c) = false from List.all_eq_false.mpr ⟨c, h, fun q => hc (low_one (by simpa using q))⟩, Bool.and_false]
theorem name_word {z : Str} (h : z ∈ wordsV) : isNameD (.str z) = false := by
  simp only [isNameD]
  rw [decide_eq_true h]
  simp
theorem up_one {z : Str} (h : low z) (l : 1 ≤ z.length) : ∃ c ∈ (Txt.upper z).cps.toList, ¬ (97 ≤ c ∧ c ≤ 122) := by
  have h6 : ∀ d : Fin 26, Unicode.upperOf (97 + d.val) = [65 + d.val] := by decide +kernel
  have hl : 0 < z.cps.size := l
  have hc := h z.cps[0] (Array.getElem_mem_toList hl)
  have e := h6 ⟨z.cps[0] - 97, by omega⟩
  rw [show 97 + (z.cps[0] - 97) = z.cps[0] by omega] at e
  refine ⟨65 + (z.cps[0] - 97), ?_, by omega⟩
  show _ ∈ ((z.cps.mapIdx fun i c => (Unicode.upperOf c).toArray).flatten).toList
  rw [Array.mem_toList_iff, Array.mem_flatten]
  exact ⟨_, Array.mem_mapIdx.mpr ⟨0, hl, rfl⟩, by rw [e]; simp⟩
def sfx (z : Str) : Str := z ++ "s"
theorem more_names : (([Txt.mul "x" 12, "a", "z", "procedures"] ++ wordsV.map sfx) : List Str).all (fun z => isNameD (.str z)) = true := by decide +kernel
/-- what no name is, at a heap -/
def NoName (K : PySem.W.Frag) (H : Hp) (v : V) : Prop := (∃ d, Dp K H v d ∧ (match d with | .str z => z.length ≤ 10000 | _ => True) ∧ isNameD d = false) ∨ ∃ a, v = .ref a ∧ H a = some (.dK [])
theorem NoName.ex {K : PySem.W.Frag} {H H' : Hp} {v : V} (h : NoName K H v) (e : Ex H H') : NoName K H' v := by
  rcases h with ⟨d, h1, h2, h3⟩ | ⟨a, h1, h2⟩
  · exact .inl ⟨d, dp_ex e d v h1, h2, h3⟩
  · exact .inr ⟨a, h1, e _ _ h2⟩
theorem noname_s {K : PySem.W.Frag} {H : Hp} {z : Str} (l : z.length ≤ 10000) (h : isNameD (.str z) = false) : NoName K H (.str z) := .inl ⟨_, .str z, l, h⟩
theorem dpa_str_inv {K : PySem.W.Frag} {H : Hp} : ∀ {vs : List V} {zs : List Str}, DpAll K H vs (zs.map PyData.str) → vs = zs.map V.str
  | [], [], _ => rfl
  | v :: vs, z :: zs, h => by
    cases h with
    | cons a r =>
      cases a
      rw [dpa_str_inv r]
      rfl
theorem de_mul {K : PySem.W.Frag} {σ : L2.St} {H0 : Hp} {z : Str} {n : Int} (h : MulOk z n) : DE K σ H0 (tOp (uMul K) (tC (.str z)) (tC (.int n))) (.str (Txt.mul z n)) := fun H Q _ q => ⟨h, q _ H (exR H) (.str _)⟩
section
variable {K : PySem.W.Frag} {σ : L2.St} {H0 : Hp}
theorem de_vs {i : Nat} {z : Str} (h : σ[i]? = some (some (.str z))) : DE K σ H0 (tVar i) (.str z) := fun H Q _ q => ⟨_, h, q _ H (exR H) (.str z)⟩
theorem de_adds {te tf : TE} {a b : Str} (h1 : DE K σ H0 te (.str a)) (h2 : DE K σ H0 tf (.str b)) (l : a.length + b.length ≤ 100000) : DE K σ H0 (tOp (uAdd K) te tf) (.str (a ++ b)) := fun H Q e q =>
  h1 H _ e fun v H1 e1 hv => h2 H1 _ (e.tr e1) fun w H2 e2 hw => by
    cases hv
    cases hw
    exact ⟨Nat.le_trans l (by decide), q _ H2 (e1.tr e2) (.str _)⟩
theorem de_up {te : TE} {a : Str} (h1 : DE K σ H0 te (.str a)) (l : a.length ≤ 1000) : DE K σ H0 (tM0 (fun x xs H Q => ∃ a, x = .str a ∧ xs = [] ∧ a.length ≤ 5592405 ∧ Q (.str (Txt.upper a)) H) te) (.str (Txt.upper a)) := fun H Q e q =>
  h1 H _ e fun v H1 e1 hv => by
    cases hv
    exact ⟨⟨a, rfl⟩, a, rfl, rfl, by omega, q _ H1 e1 (.str _)⟩
theorem de_cut1 {i : Nat} {z : Str} (h : σ[i]? = some (some (.str z))) (l : z.length ≤ 1000) : DE K σ H0 (tSl (uSl K) (tVar i) tNoPart (tPart (tC (.int 1)))) (.str (cutS z none (some 1))) := fun H Q e q => ⟨_, h, 1, rfl, by show z.length ≤ 16777216; omega, q _ H (exR H) (.str _)⟩
end
theorem words_len : ∀ w ∈ wordsV, w.length ≤ 11 := by
  have h : wordsV.all (fun w => decide (w.length ≤ 11)) = true := by decide +kernel
  intro w hw
  simpa using List.all_eq_true.mp h w hw
def oddT (z : Str) : List Str := ["", Txt.mul "x" 13, z ++ (" " : Str), (" " : Str) ++ z, Txt.upper z, ("A" : Str) ++ z, cutS z none (some 1) ++ ("1" : Str), "2", z ++ ("_" : Str), "a-b", "a\n", "\n"]
theorem mem_l {a b : Str} {c : Nat} (h : c ∈ TL.tl a) : c ∈ (a ++ b).cps.toList := by
  show c ∈ TL.tl (a ++ b)
  rw [TL.tl_append]
  exact List.mem_append_left _ h
theorem mem_r {a b : Str} {c : Nat} (h : c ∈ TL.tl b) : c ∈ (a ++ b).cps.toList := by
  show c ∈ TL.tl (a ++ b)
  rw [TL.tl_append]
  exact List.mem_append_right _ h
theorem oddT_no {z : Str} (N : NameIs z) : ∀ y ∈ oddT z, isNameD (.str y) = false ∧ y.length ≤ 10000 := by
  intro y hy
  have l12 := N.l2
  have lc := cutS_length z none (some 1)
  simp only [oddT, List.mem_cons, List.not_mem_nil, or_false] at hy
  rcases hy with rfl | rfl | rfl | rfl | rfl | rfl | rfl | rfl | rfl | rfl | rfl | rfl
  · exact ⟨by decide +kernel, by decide⟩
  · exact ⟨by decide +kernel, by decide +kernel⟩
  · exact ⟨name_no (c := 32) (mem_r (by decide)) (by decide), by rw [app_len]; show _ + 1 ≤ _; omega⟩
  · exact ⟨name_no (c := 32) (mem_l (by decide)) (by decide), by rw [app_len]; show 1 + _ ≤ _; omega⟩
  · obtain ⟨c, h1, h2⟩ := up_one N.low N.l1
    exact ⟨name_no h1 h2, by have := len_upper z; omega⟩
  · exact ⟨name_no (c := 65) (mem_l (by decide)) (by decide), by rw [app_len]; show 1 + _ ≤ _; omega⟩
  · exact ⟨name_no (c := 49) (mem_r (by decide)) (by decide), by rw [app_len]; show _ + 1 ≤ _; omega⟩
  · exact ⟨by decide +kernel, by decide⟩
  · exact ⟨name_no (c := 95) (mem_r (by decide)) (by decide), by rw [app_len]; show _ + 1 ≤ _; omega⟩
  · exact ⟨by decide +kernel, by decide⟩
  · exact ⟨by decide +kernel, by decide⟩
  · exact ⟨by decide +kernel, by decide⟩
section
variable {P : Program} {w : World} {K : PySem.W.Frag} {mg : Str → Option Value} {base : Heap}
variable {cE cH cU cW : Addr}
theorem ok_l_right_names (T : Tp P K mg cE cH cU cW)
    (c_is_name : Cal P w K mg base 1 "is_name" P_is_name [] (spIsName K))
    (c_l_words : Cal P w K mg base 1 "_law_words" P_l_words [] (spWords))
    {f : Addr} {fd : FuncData} {dvs : List V} (F : FunD K "_law_right_names" "_law_right_names" (defArgs s_l_right_names) (defBody s_l_right_names) (defScope s_l_right_names) dvs [] f fd) : FnG P w K mg base 2 f fd P_l_right_names (spRightNames K) := by
  refine fng F sc_l_right_names (by walk_at "ulen") (fun cdv A outer s H vs Q E hr0 hg0 h => ?_)
  have hr : Rm 1 (A.deeper (envOfC "_law_right_names" (defScope s_l_right_names) s.heap.objs.size f cdv)) := ⟨hr0, hg0⟩
  have nd : N_l_right_names.Nodup := sc_l_right_names.nd
  have po : PassesOwn (model P w) (cxOf (L2.CX P w) P w K mg base N_l_right_names "_law_right_names" (defScope s_l_right_names) f cdv A outer s H E).A (cxOf (L2.CX P w) P w K mg base N_l_right_names "_law_right_names" (defScope s_l_right_names) f cdv A outer s H E).env (cxOf (L2.CX P w) P w K mg base N_l_right_names "_law_right_names" (defScope s_l_right_names) f cdv A outer s H E).xe := passes_of rfl
  obtain ⟨p, zs, rfl, hp, N, h2, h7, k⟩ := h
  refine ⟨_, (pss_cons (ps_if (PW.pt (pw_or (pt_not (pt_val (pe_callB call_isi (by rfl) T.isinstance b_isinstance (pa_cons (pe_gR T.g_WORDS) (pa_cons (pe_bltn (v := .ty "tuple") (by rfl) T.tuple b_tuple rfl) pa_nil))))) (pw_or1 (pt_cmpR (op_uNe hr.r.units) (pe_callTy call_uList (by rfl) T.list b_list (pa_cons (pe_gR T.g_WORDS) pa_nil)) (pe_c0 c_l_words (hr.mono (by decide)) (E := En) paN) (nomark _))))) (pss_one (ps_ret pe_bl)) pss_nil)
    (pss_cons (ps_for po rfl (pi_list (pe_op op_uAdd (pe_op op_uAdd (pv 0) (pe_lst (pa_cons (pe_op op_uMul pe_str pe_int) (pa_cons pe_str (pa_cons pe_str (pa_cons pe_str pa_nil)))))) (pe_lc (own := [("_law_word", 2)]) (g := gName 2) (by rfl) nd (pi_list (pe_c0 c_l_words (hr.mono (by decide)) (E := En) paN)) (blkOk_by (own := [("_law_word", 2)]) (N := N_l_right_names) (sc := defScope s_l_right_names) (by decide +kernel)) (fun s_ H_ C_ cl_ fp_ => pg_name (i := 2) nd rfl (Or.inl rfl)) (fun s_ H_ C_ cl_ fp_ => pts_nil) (fun s_ H_ C_ cl_ fp_ => (pe_op (op_uAddK (K := K) rfl) (pv 2) pe_str))))) (pg_name (i := 1) nd rfl (Or.inl rfl))
    (pss_one (ps_if (pt_cmpR op_uNotB (pe_c (E := En) c_is_name (hr.mono (by decide)) paN (pa_cons (pv 1) pa_nil)) pe_bl (nomark _)) (pss_one (ps_ret pe_bl)) pss_nil)))
    (pss_cons (ps_set (i := 3) nd rfl (Or.inl rfl) (pe_ix ix_seq (pv 0) pe_int (fun _ _ => rfl)))
    (pss_cons (ps_set (i := 4) nd rfl (Or.inl rfl) (pe_lst (pa_cons pe_str (pa_cons (pe_op op_uMul pe_str pe_int) (pa_cons (pe_op op_uAdd (pv 3) pe_str) (pa_cons (pe_op op_uAdd pe_str (pv 3)) (pa_cons (pe_upper (pv 3)) (pa_cons (pe_op op_uAdd pe_str (pv 3)) (pa_cons (pe_op op_uAdd (pe_slice sl_u (pv 3) po_none (po_some pe_int)) pe_str) (pa_cons pe_str (pa_cons (pe_op op_uAdd (pv 3) pe_str) (pa_cons pe_str (pa_cons pe_str (pa_cons pe_str pa_nil))))))))))))))
    (pss_cons (ps_for po rfl (pi_list (pe_op op_uAdd (pe_op op_uAdd (pv 4) (pe_c0 c_l_words (hr.mono (by decide)) (E := En) paN)) (pe_lst (pa_cons pe_non (pa_cons pe_int (pa_cons pe_bl (pa_cons (pe_tup (pa_cons (pv 3) pa_nil)) (pa_cons (pe_lst (pa_cons (pv 3) pa_nil)) (pa_cons pe_dnewK (pa_cons (pe_op op_uAdd (pv 3) pe_str) (pa_cons pe_str (pa_cons pe_str (pa_cons pe_str pa_nil))))))))))))) (pg_name (i := 5) nd rfl (Or.inl rfl))
    (pss_one (ps_if (pt_cmpR op_uNotB (pe_c (E := En) c_is_name (hr.mono (by decide)) paN (pa_cons (pv 5) pa_nil)) pe_bl (nomark _)) (pss_one (ps_ret pe_bl)) pss_nil)))
    (pss_one (ps_ret pe_bl))))))), ?_⟩
  walk_at "uk"
  walk_at "uz"
  have dW : Dp K H (.ref cW) (.tuple (wordsV.map PyData.str)) := .tup (T.tW H) (dpa_strs wordsV)
  refine s_isTup dW ?_
  walk_at "uz"
  refine s_listT (T.tW H) fun l nl => ?_
  walk_at "uz"
  refine ⟨rfl, fun q H1 nq e1 hq => ?_⟩
  walk_at "uz"
  have e2 := (exN (o := .lst (wordsV.map V.str)) nl).tr e1
  have fl : H1 l = some (.lst (wordsV.map V.str)) := e1 _ _ upd_same
  have so : SeqAt.shaped (.list (wordsV.map PyData.str)) = true := by decide +kernel
  refine ne_data (lstS_dp (.of fl)) (lstS_dp (.of hq)) so so ?_
  rw [show PyData.eqv (.list (wordsV.map PyData.str)) (.list (wordsV.map PyData.str)) = true by decide +kernel]
  clear so
  walk_at "uz"
  have mx : ∀ n : Int, n = 12 ∨ n = 13 → MulOk ("x" : Str) n := fun n hn => by
    rcases hn with rfl | rfl <;> exact ⟨by decide +kernel, fun _ _ => by decide +kernel, fun _ _ => by decide +kernel⟩
  refine s_dlst (da_cons (de_mul (mx 12 (.inl rfl))) (da_cons (de_str "a") (da_cons (de_str "z") (da_cons (de_str "procedures") da_nil)))) (Nat.le_of_ble_eq_true rfl) ?_
  intro l1 vs1 H2 e3 f1 d1
  have ev := dpa_str_inv (zs := [Txt.mul "x" 12, "a", "z", "procedures"]) d1
  subst ev
  have hp2 := (e2.tr e3) _ _ hp
  refine s_addL hp2 f1 (by rw [List.length_map, List.length_map]; show _ + 4 ≤ 16777216; omega) fun l2 nl2 => ?_
  have e4 := (e2.tr e3).tr (exN (o := .lst (zs.map V.str ++ [Txt.mul "x" 12, "a", "z", "procedures"].map V.str)) nl2)
  have f2 : upd H2 l2 (.lst (zs.map V.str ++ [Txt.mul "x" 12, "a", "z", "procedures"].map V.str)) l2 = some (.lst ((zs ++ [Txt.mul "x" 12, "a", "z", "procedures"]).map V.str)) := by rw [List.map_append (l₁ := zs)]; exact upd_same
  generalize upd H2 l2 (.lst (zs.map V.str ++ [Txt.mul "x" 12, "a", "z", "procedures"].map V.str)) = H3 at e4 f2
  walk_at "uz"
  refine ⟨rfl, fun w1 H4 nw e5 fw => ?_⟩
  refine s_mapc (g := sfx) (.of fw) (Nat.le_of_ble_eq_true rfl) (fun v => rfl) (fun z hz H Q q => ⟨_, rfl, by
    have hw9 := words_len z hz
    show z.length + 1 ≤ 16777216
    omega, q⟩) fun l3 H5 n5 e6 f3 => ?_
  refine s_addL (e6 _ _ (e5 _ _ f2)) f3 (by rw [List.length_map, List.length_map, List.length_map, List.length_append]; show _ + 4 + 46 ≤ 16777216; omega) fun l4 nl4 => ?_
  have e7 := (e4.tr (e5.tr e6)).tr (exN (o := .lst ((zs ++ [Txt.mul "x" 12, "a", "z", "procedures"]).map V.str ++ (wordsV.map sfx).map V.str)) nl4)
  have f4 : upd H5 l4 (.lst ((zs ++ [Txt.mul "x" 12, "a", "z", "procedures"]).map V.str ++ (wordsV.map sfx).map V.str)) l4 = some (.lst ((zs ++ ([Txt.mul "x" 12, "a", "z", "procedures"] ++ wordsV.map sfx)).map V.str)) := by rw [← List.append_assoc, List.map_append (l₂ := wordsV.map sfx)]; exact upd_same
  generalize upd H5 l4 (.lst ((zs ++ [Txt.mul "x" 12, "a", "z", "procedures"]).map V.str ++ (wordsV.map sfx).map V.str)) = H6 at e7 f4
  have all : ∀ z ∈ zs ++ ([Txt.mul "x" 12, "a", "z", "procedures"] ++ wordsV.map sfx), isNameD (.str z) = true ∧ z.length ≤ 10000 := fun z hz => by
    have h : isNameD (.str z) = true := by
      rcases List.mem_append.mp hz with hz | hz
      · exact name_yes (N.each z hz)
      · exact List.all_eq_true.mp more_names z hz
    refine ⟨h, ?_⟩
    simp only [isNameD, Bool.and_eq_true, decide_eq_true_eq] at h
    omega
  generalize zs ++ ([Txt.mul "x" 12, "a", "z", "procedures"] ++ wordsV.map sfx) = ys at f4 all
  have hp6 := e7 _ _ hp
  obtain ⟨z0, hz0⟩ : ∃ n, zs[0]? = some n := ⟨_, List.getElem?_eq_getElem (by omega)⟩
  have n0 := N.each z0 (List.mem_of_getElem? hz0)
  have an : atI (zs.map V.str) 0 = some (.str z0) := atI_nat (j := 0) (by rw [List.getElem?_map, hz0]; rfl)
  clear dW fl f1 f2 f3 fw d1 hz0
  refine loopL (xs := ys.map V.str) (fun i σ' H' => H6 = H' ∧ ∃ o1, σ' = [some (.ref p), o1, none, none, none, none]) ⟨rfl, none, rfl⟩ (fun i σ' H' h => by rw [← h.1]; exact .of f4) ?_ ?_
  · rintro σ' _ ⟨rfl, o1, rfl⟩
    walk_at "uz"
    refine s_ixL (.of hp6) an ?_
    walk_at "uz"
    have zl := n0.l2
    have lcut := cutS_length z0 none (some 1)
    refine s_dlst (da_cons (de_str "") (da_cons (de_mul (mx 13 (.inr rfl))) (da_cons (de_adds (de_vs rfl) (de_str " ") (by show _ + 1 ≤ _; omega)) (da_cons (de_adds (de_str " ") (de_vs rfl) (by show 1 + _ ≤ _; omega)) (da_cons (de_up (de_vs rfl) (by omega)) (da_cons (de_adds (de_str "A") (de_vs rfl) (by show 1 + _ ≤ _; omega)) (da_cons (de_adds (de_cut1 rfl (by omega)) (de_str "1") (by show _ + 1 ≤ _; omega)) (da_cons (de_str "2") (da_cons (de_adds (de_vs rfl) (de_str "_") (by show _ + 1 ≤ _; omega)) (da_cons (de_str "a-b") (da_cons (de_str "a\n") (da_cons (de_str "\n") da_nil)))))))))))) (Nat.le_of_ble_eq_true rfl) ?_
    intro l5 vs5 H7 e8 f5 d5
    have ev := dpa_str_inv (zs := oddT z0) d5
    subst ev
    have on := oddT_no n0
    have ol : (oddT z0).length = 12 := rfl
    generalize oddT z0 = od at f5 on ol
    clear d5
    walk_at "uz"
    refine ⟨rfl, fun w2 HA nw2 eA fA => ?_⟩
    have hp7 := (e7.tr (e8.tr eA)) _ _ hp
    refine s_addL (eA _ _ f5) fA (by rw [List.length_map, List.length_map]; show _ + 46 ≤ 16777216; omega) fun l6 nl6 => ?_
    have e9 := (e7.tr (e8.tr eA)).tr (exN (o := .lst (od.map V.str ++ wordsV.map V.str)) nl6)
    have f6 : upd HA l6 (.lst (od.map V.str ++ wordsV.map V.str)) l6 = some (.lst ((od ++ wordsV).map V.str)) := by rw [List.map_append]; exact upd_same
    generalize upd HA l6 (.lst (od.map V.str ++ wordsV.map V.str)) = HB at e9 f6
    have no1 : ∀ y ∈ od ++ wordsV, isNameD (.str y) = false ∧ y.length ≤ 10000 := fun y hy => by
      rcases List.mem_append.mp hy with hy | hy
      · exact on y hy
      · have := words_len y hy
        exact ⟨name_word hy, by omega⟩
    have lo1 : (od ++ wordsV).length ≤ 1000 := by
      rw [List.length_append, ol]
      decide
    clear f5 nl6 eA nw2 fA
    refine s_lstE (s_cons (s_c (s_cons (s_c (s_cons (s_c ?_))))))
    refine s_cons (s_tupE (s_cons (s_var (v := .str z0) rfl (s_nil ?_))))
    refine s_szN (Nat.le_of_ble_eq_true rfl) fun t1 nt1 => ?_
    refine s_cons (s_lstE (s_cons (s_var (v := .str z0) rfl (s_nil ?_))))
    refine s_szN (Nat.le_of_ble_eq_true rfl) fun t2 nt2 => ?_
    refine s_cons (s_dnew fun t3 nt3 => ?_)
    refine s_cons (s_op (s_var (v := .str z0) rfl (s_c (s_addS (by show _ + 2 ≤ 16777216; omega) ?_))))
    refine s_cons (s_c (s_cons (s_c (s_cons (s_c (s_nil ?_))))))
    refine s_szN (Nat.le_of_ble_eq_true rfl) fun t4 nt4 => ?_
    have x1 := exN (o := .tup [.str z0]) nt1
    have g1 : upd HB t1 (.tup [.str z0]) t1 = some (.tup [.str z0]) := upd_same
    generalize upd HB t1 (.tup [.str z0]) = HC at x1 g1 nt2 nt3 nt4
    have x2 := exN (o := .lst [.str z0]) nt2
    have g2 : upd HC t2 (.lst [.str z0]) t2 = some (.lst [.str z0]) := upd_same
    generalize upd HC t2 (.lst [.str z0]) = HD at x2 g2 nt3 nt4
    have x3 := exN (o := .dK []) nt3
    have g3 : upd HD t3 (.dK []) t3 = some (.dK []) := upd_same
    generalize upd HD t3 (.dK []) = HE at x3 g3 nt4
    obtain ⟨L, hL⟩ : ∃ L : List V, L = [V.non, V.int 5, V.bl true, V.ref t1, V.ref t2, V.ref t3, V.str (z0 ++ "^2"), V.str "a*b", V.str "a/b", V.str "1"] := ⟨_, rfl⟩
    rw [← hL]
    have x4 := exN (o := .lst L) nt4
    have g4 : upd HE t4 (.lst L) t4 = some (.lst L) := upd_same
    generalize upd HE t4 (.lst L) = HF at x4 g4
    refine s_addL (((x1.tr (x2.tr (x3.tr x4)))) _ _ f6) g4 (by rw [List.length_map, hL]; show _ + 10 ≤ 16777216; omega) fun l7 nl7 => ?_
    have x5 := exN (o := .lst ((od ++ wordsV).map V.str ++ L)) nl7
    have g5 : upd HF l7 (.lst ((od ++ wordsV).map V.str ++ L)) l7 = some (.lst ((od ++ wordsV).map V.str ++ L)) := upd_same
    have e10 := e9.tr (x1.tr (x2.tr (x3.tr (x4.tr x5))))
    have t1f := (x2.tr (x3.tr (x4.tr x5))) _ _ g1
    have t2f := (x3.tr (x4.tr x5)) _ _ g2
    have t3f := (x4.tr x5) _ _ g3
    generalize upd HF l7 (.lst ((od ++ wordsV).map V.str ++ L)) = HG at x5 g5 e10 t1f t2f t3f
    have all2 : ∀ v ∈ (od ++ wordsV).map V.str ++ L, NoName K HG v := fun v hv => by
      rcases List.mem_append.mp hv with hv | hv
      · obtain ⟨y, hy, rfl⟩ := List.mem_map.mp hv
        exact noname_s (no1 y hy).2 (no1 y hy).1
      · rw [hL] at hv
        simp only [List.mem_cons, List.not_mem_nil, or_false] at hv
        rcases hv with rfl | rfl | rfl | rfl | rfl | rfl | rfl | rfl | rfl | rfl
        · exact .inl ⟨_, .non, trivial, rfl⟩
        · exact .inl ⟨_, .int 5, trivial, rfl⟩
        · exact .inl ⟨_, .bl true, trivial, rfl⟩
        · exact .inl ⟨_, .tup (.of t1f) (.cons (.str z0) .nil), trivial, rfl⟩
        · exact .inl ⟨_, .lst (.of t2f) (.cons (.str z0) .nil), trivial, rfl⟩
        · exact .inr ⟨_, rfl, t3f⟩
        · exact noname_s (by rw [app_len]; show _ + 2 ≤ _; omega) (name_no (c := 50) (mem_r (by decide)) (by decide))
        · exact noname_s (by decide) (by decide +kernel)
        · exact noname_s (by decide) (by decide +kernel)
        · exact noname_s (by decide) (by decide +kernel)
    generalize (od ++ wordsV).map V.str ++ L = LL at g5 all2
    refine loopL (xs := LL) (fun i σ' H' => HG = H' ∧ ∃ o5, σ' = [some (V.ref p), o1, none, some (V.str z0), some (V.ref l5), o5]) ⟨rfl, none, rfl⟩ (fun i σ' H' h => by rw [← h.1]; exact .of g5) ?_ ?_
    · rintro σ' _ ⟨rfl, o5, rfl⟩
      walk_at "uz"
      exact k _ e10
    · rintro i x σ' _ hx ⟨rfl, o5, rfl⟩
      have hx2 := all2 x (List.mem_of_getElem? hx)
      walk_at "uz"
      rcases hx2 with ⟨d, d1, d2, d3⟩ | h
      · refine ⟨x, rfl, .inl ⟨d, d1, d2, ?_⟩⟩
        rw [d3]
        walk_at "uz"
        exact ⟨rfl, _, rfl⟩
      · refine ⟨x, rfl, .inr ⟨h, ?_⟩⟩
        walk_at "uz"
        exact ⟨rfl, _, rfl⟩
  · rintro i x σ' _ hx ⟨rfl, o1, rfl⟩
    obtain ⟨y, hy, rfl⟩ := str_get hx
    obtain ⟨h1, h2⟩ := all y (List.mem_of_getElem? hy)
    walk_at "uz"
    refine ⟨_, rfl, .inl ⟨_, .str y, h2, ?_⟩⟩
    rw [h1]
    walk_at "uz"
    exact ⟨rfl, _, rfl⟩
end
end Lw

set_option Elab.async false
set_option linter.all false
set_option maxRecDepth 100000
set_option maxHeartbeats 4000000
namespace Lw
open PySem PySem.Spec L2 Uv
open PyProof.Rows hiding St
local macro_rules | `(tactic| walk_at "umul") => `(tactic| fail)
local macro_rules | `(tactic| walk_at "us1") => `(tactic| first
  | (with_reducible refine s_seq ?_) | (with_reducible refine s_asg ?_) | (with_reducible refine s_gn ?_) | (with_reducible refine s_ret ?_) | (with_reducible refine s_drop ?_) | (with_reducible refine s_if ?_) | (with_reducible refine s_next ?_)
  | (with_reducible refine s_brk ?_) | (with_reducible refine s_cont ?_)
  | ((with_reducible refine' s_var ?hv ?_); (case hv => exact rfl)) | (with_reducible refine s_c ?_) | (with_reducible refine s_op ?_) | (with_reducible refine s_un ?_) | (with_reducible refine s_cb ?_) | (with_reducible refine s_call ?_)
  | (with_reducible refine s_cons ?_) | (with_reducible refine s_nil ?_) | (with_reducible refine s_test ?_) | (with_reducible refine s_tB ?_) | (with_reducible refine s_not ?_) | (with_reducible refine s_and ?_) | (with_reducible refine s_or ?_)
  | (with_reducible refine s_andV ?_) | (with_reducible refine s_orV ?_) | (with_reducible refine s_notV ?_) | (with_reducible refine s_ifE ?_) | (with_reducible refine s_bl ?_) | (with_reducible refine s_iT ?_) | (with_reducible refine s_iF ?_)
  | (with_reducible refine s_I0 ?_) | (with_reducible refine s_U ?_) | (with_reducible refine s_addI ?_) | (with_reducible refine s_eqI ?_) | (with_reducible refine s_eqS ?_) | (with_reducible refine s_eqB ?_) | (with_reducible refine s_neI ?_) | (with_reducible refine s_neS ?_) | (with_reducible refine s_neB ?_)
  | (with_reducible refine s_tupE ?_) | (with_reducible refine s_lstE ?_))
local macro_rules | `(tactic| walk_at "us") => `(tactic| repeat walk_at "us1")
local macro_rules | `(tactic| walk_at "ulen") => `(tactic| (intro vs H Q E h; repeat' (first | (obtain ⟨e, _⟩ := h; subst e; rfl) | (subst h; rfl) | (refine Or.elim h (fun h => ?_) (fun h => ?_)) | (obtain ⟨_, h⟩ := h))))
local macro_rules | `(tactic| walk_at "uk") => `(tactic| (try dsimp only [cxOf, Cx.suite, Cx.tr]))
local macro_rules | `(tactic| walk_at "us2") => `(tactic| first
  | walk_at "us1" | (with_reducible refine s_dput ?_) | ((with_reducible refine' s_mod ?hc ?_); (case hc => first | decide | assumption | omega))
  | (with_reducible refine s_for ?_) | (with_reducible refine s_lc ?_) | (with_reducible refine s_bm ?_) | (with_reducible refine s_ilt ?_) | (with_reducible refine s_izx ?_) | (with_reducible refine s_ienum ?_) | (with_reducible refine s_din ?_) | (with_reducible refine s_dnotin ?_) | (with_reducible refine s_itl ?_) | (with_reducible refine s_itt ?_) | (with_reducible refine s_its ?_) | (with_reducible refine s_itr ?_) | (with_reducible refine s_itr2 ?_) | (with_reducible refine s_disp ?_) | (with_reducible refine s_prn ?_) | (with_reducible refine s_prc ?_) | (with_reducible refine s_m1 ?_) | (with_reducible refine s_isS ?_) | (with_reducible refine s_um1 ?_) | (with_reducible refine s_isB ?_) | (with_reducible refine s_isn ?_) | (with_reducible refine s_notn ?_) | (with_reducible refine s_jd ?_) | (with_reducible refine s_jn ?_) | (with_reducible refine s_jc ?_) | (with_reducible refine s_fmt ?_) | (with_reducible refine s_gc ?_) | (with_reducible refine s_gnil ?_) | (with_reducible refine s_yes ?_) | (with_reducible refine s_raise ?_)
  | ((with_reducible refine' s_pow ?hc ?_); (case hc => exact ⟨by decide, by decide, by decide⟩)) | (with_reducible refine s_int ?_) | (with_reducible refine s_intB ?_) | (with_reducible refine s_strS ?_) | (with_reducible refine s_abs ?_) | (with_reducible refine s_max ?_) | (with_reducible refine s_min ?_) | (with_reducible refine s_gcd ?_)
  | (with_reducible refine s_chain ?_) | (with_reducible refine s_sl ?_) | (with_reducible refine s_noP ?_) | (with_reducible refine s_part ?_) | (with_reducible refine s_exI ?_) 
  | ((with_reducible refine' s_mulI ?hc ?_); (case hc => first | exact Or.inl (Or.inr ⟨by decide, by decide⟩) | exact Or.inl (Or.inl ⟨by decide, by decide⟩) | exact Or.inl (Or.inl ⟨by omega, by omega⟩) | exact Or.inl (Or.inr ⟨by omega, by omega⟩) | walk_at "umul"))
  | ((with_reducible refine' s_ixT ?hc ?hd ?_); (case hc => assumption); (case hd => rfl))
  | ((with_reducible refine' s_lenL ?hc ?_); (case hc => first | assumption | exact SqL.of (by assumption))) | ((with_reducible refine' s_lenT ?hc ?_); (case hc => first | assumption | exact SqT.of (by assumption)))
  | ((with_reducible refine' s_divP ?hc ?hd ?_); (case hc => first | decide | assumption | omega); (case hd => first | decide +kernel | assumption)))
local macro_rules | `(tactic| walk_at "us") => `(tactic| repeat walk_at "us2")
local macro_rules | `(tactic| walk_at "uj") => `(tactic| ((walk_at "us"); with_reducible refine s_J ?_))
local macro_rules | `(tactic| walk_at "ua") => `(tactic| ((walk_at "us"); repeat ((with_reducible refine s_ick ?_); (first | (refine s_iF ?_) | (refine s_iT ?_)); (walk_at "us"))))
local macro_rules | `(tactic| walk_at "ub") => `(tactic| walk_at "ua")
local macro_rules | `(tactic| walk_at "ux1") => `(tactic| first
  | walk_at "us2" | ((with_reducible refine' s_ixL ?hc ?hd ?_); (case hc => first | assumption | exact SqL.of (by assumption)); (case hd => rfl)) | ((with_reducible refine' s_ixT ?hc ?hd ?_); (case hc => exact SqT.of (by assumption)); (case hd => rfl))
  | ((with_reducible refine' s_intS ?hc ?hd ?_); (case hc => assumption); (case hd => assumption)) | ((with_reducible refine' s_lenS ?hc ?_); (case hc => assumption)))
local macro_rules | `(tactic| walk_at "ux") => `(tactic| repeat walk_at "ux1")
local macro_rules | `(tactic| walk_at "uy") => `(tactic| ((walk_at "ux"); repeat ((with_reducible refine s_ick ?_); (first | (refine s_iF ?_) | (refine s_iT ?_)); (walk_at "ux"))))
local macro_rules | `(tactic| walk_at "uz0") => `(tactic| first
  | (with_reducible refine s_seq ?_) | (with_reducible refine s_asg ?_) | (with_reducible refine s_gn ?_) | (with_reducible refine s_ret ?_) | (with_reducible refine s_drop ?_) | (with_reducible refine s_if ?_) | (with_reducible refine s_next ?_)
  | (with_reducible refine s_brk ?_) | (with_reducible refine s_cont ?_)
  | ((with_reducible refine' s_var ?hv ?_); (case hv => exact rfl)) | (with_reducible refine s_c ?_) | (with_reducible refine s_op ?_) | (with_reducible refine s_un ?_) | (with_reducible refine s_cb ?_) | (with_reducible refine s_call ?_)
  | (with_reducible refine s_cons ?_) | (with_reducible refine s_nil ?_) | (with_reducible refine s_test ?_) | (with_reducible refine s_tB ?_) | (with_reducible refine s_not ?_) | (with_reducible refine s_and ?_) | (with_reducible refine s_or ?_)
  | (with_reducible refine s_andV ?_) | (with_reducible refine s_orV ?_) | (with_reducible refine s_notV ?_) | (with_reducible refine s_ifE ?_) | (with_reducible refine s_bl ?_) | (with_reducible refine s_iT ?_) | (with_reducible refine s_iF ?_)
  | (with_reducible refine s_I0 ?_) | (with_reducible refine s_U ?_) | (with_reducible refine s_addI ?_) | (with_reducible refine s_eqI ?_) | (with_reducible refine s_eqS ?_) | (with_reducible refine s_eqB ?_) | (with_reducible refine s_neI ?_) | (with_reducible refine s_neS ?_) | (with_reducible refine s_neB ?_))
local macro_rules | `(tactic| walk_at "uz2") => `(tactic| first
  | walk_at "uz0" | (with_reducible refine s_dput ?_) | ((with_reducible refine' s_mod ?hc ?_); (case hc => first | decide | assumption | omega))
  | (with_reducible refine s_for ?_) | (with_reducible refine s_lc ?_) | (with_reducible refine s_bm ?_) | (with_reducible refine s_ilt ?_) | (with_reducible refine s_izx ?_) | (with_reducible refine s_ienum ?_) | (with_reducible refine s_din ?_) | (with_reducible refine s_dnotin ?_) | (with_reducible refine s_itl ?_) | (with_reducible refine s_itt ?_) | (with_reducible refine s_its ?_) | (with_reducible refine s_itr ?_) | (with_reducible refine s_itr2 ?_) | (with_reducible refine s_disp ?_) | (with_reducible refine s_prn ?_) | (with_reducible refine s_prc ?_) | (with_reducible refine s_m1 ?_) | (with_reducible refine s_isS ?_) | (with_reducible refine s_um1 ?_) | (with_reducible refine s_isB ?_) | (with_reducible refine s_isn ?_) | (with_reducible refine s_notn ?_) | (with_reducible refine s_jd ?_) | (with_reducible refine s_jn ?_) | (with_reducible refine s_jc ?_) | (with_reducible refine s_fmt ?_) | (with_reducible refine s_gc ?_) | (with_reducible refine s_gnil ?_) | (with_reducible refine s_yes ?_) | (with_reducible refine s_raise ?_)
  | ((with_reducible refine' s_pow ?hc ?_); (case hc => exact ⟨by decide, by decide, by decide⟩)) | (with_reducible refine s_int ?_) | (with_reducible refine s_intB ?_) | (with_reducible refine s_strS ?_) | (with_reducible refine s_abs ?_) | (with_reducible refine s_max ?_) | (with_reducible refine s_min ?_) | (with_reducible refine s_gcd ?_)
  | (with_reducible refine s_chain ?_) | (with_reducible refine s_sl ?_) | (with_reducible refine s_noP ?_) | (with_reducible refine s_part ?_) | (with_reducible refine s_exI ?_) 
  | ((with_reducible refine' s_mulI ?hc ?_); (case hc => first | exact Or.inl (Or.inr ⟨by decide, by decide⟩) | exact Or.inl (Or.inl ⟨by decide, by decide⟩) | exact Or.inl (Or.inl ⟨by omega, by omega⟩) | exact Or.inl (Or.inr ⟨by omega, by omega⟩) | walk_at "umul"))
  | ((with_reducible refine' s_ixT ?hc ?hd ?_); (case hc => assumption); (case hd => rfl))
  | ((with_reducible refine' s_lenL ?hc ?_); (case hc => first | assumption | exact SqL.of (by assumption))) | ((with_reducible refine' s_lenT ?hc ?_); (case hc => first | assumption | exact SqT.of (by assumption)))
  | ((with_reducible refine' s_divP ?hc ?hd ?_); (case hc => first | decide | assumption | omega); (case hd => first | decide +kernel | assumption)))
local macro_rules | `(tactic| walk_at "uz1") => `(tactic| first
  | walk_at "uz2" | ((with_reducible refine' s_ixL ?hc ?hd ?_); (case hc => first | assumption | exact SqL.of (by assumption)); (case hd => rfl)) | ((with_reducible refine' s_ixT ?hc ?hd ?_); (case hc => exact SqT.of (by assumption)); (case hd => rfl))
  | ((with_reducible refine' s_intS ?hc ?hd ?_); (case hc => assumption); (case hd => assumption)) | ((with_reducible refine' s_lenS ?hc ?_); (case hc => assumption)))
local macro_rules | `(tactic| walk_at "uz") => `(tactic| ((repeat walk_at "uz1"); repeat ((with_reducible refine s_ick ?_); (first | (refine s_iF ?_) | (refine s_iT ?_)); (repeat walk_at "uz1"))))
/-- the sum of a name's powers -/
def sumN (l : List (Str × Int)) (m : Str) : Int := l.foldr (fun x s => (if x.1 = m then x.2 else 0) + s) 0
theorem sumN_cons (x : Str × Int) (l : List (Str × Int)) (m : Str) : sumN (x :: l) m = (if x.1 = m then x.2 else 0) + sumN l m := rfl
theorem sumN_not {l : List (Str × Int)} {m : Str} (h : ∀ x ∈ l, x.1 ≠ m) : sumN l m = 0 := by
  induction l with
  | nil => rfl
  | cons x r ih => rw [sumN_cons, if_neg (h x List.mem_cons_self), ih fun y hy => h y (List.mem_cons_of_mem _ hy)]; rfl
theorem sumN_split (m : Str) : ∀ l : List (Str × Int), sumN (l.filter fun x => decide (0 < x.2)) m + sumN (l.filter fun x => decide (x.2 < 0)) m = sumN l m
  | [] => rfl
  | x :: r => by
    have ih := sumN_split m r
    rw [List.filter_cons, List.filter_cons, sumN_cons]
    by_cases h : 0 < x.2
    · rw [if_pos (by simpa using h), if_neg (by simp; omega), sumN_cons]; omega
    · by_cases h2 : x.2 < 0
      · rw [if_neg (by simpa using h), if_pos (by simpa using h2), sumN_cons]; omega
      · rw [if_neg (by simpa using h), if_neg (by simpa using h2)]
        have : x.2 = 0 := by omega
        rw [this]
        split <;> omega
theorem sumN_zip : ∀ {ns : List Str} {xs : List Int}, ns.Nodup → ns.length = xs.length → ns.map (sumN (ns.zip xs)) = xs
  | [], [], _, _ => rfl
  | [], _ :: _, _, h => by simp at h
  | _ :: _, [], _, h => by simp at h
  | a :: r, x :: t, nd, h => by
    have nd' := List.nodup_cons.mp nd
    have l : r.length = t.length := by simpa using h
    rw [List.zip_cons_cons, List.map_cons]
    have e1 : sumN ((a, x) :: r.zip t) a = x := by
      rw [sumN_cons, if_pos rfl, sumN_not fun y hy (q : y.1 = a) => nd'.1 (by rw [← q]; exact (List.of_mem_zip (show (y.1, y.2) ∈ _ from hy)).1)]
      exact Int.add_zero _
    rw [e1]
    have e2 : r.map (sumN ((a, x) :: r.zip t)) = r.map (sumN (r.zip t)) := List.map_congr_left fun n hn => by
      rw [sumN_cons, if_neg fun q : a = n => nd'.1 (q ▸ hn)]
      exact Int.zero_add _
    rw [e2, sumN_zip nd'.2 l]
/-- a term's text -/
def trmOk (t : Str) : Prop := 42 ∉ TL.tl t ∧ 47 ∉ TL.tl t
theorem terms_run : ∀ (w r : List Nat) (s : Int) (acc : List Nat), 42 ∉ w → 47 ∉ w → termsL s acc (w ++ r) = termsL s (acc ++ w) r
  | [], r, s, acc, _, _ => by rw [List.append_nil]; rfl
  | c :: w, r, s, acc, h1, h2 => by
    rw [List.cons_append, termsL, if_neg (fun q => by rcases q with q | q; exact h1 (q ▸ List.mem_cons_self); exact h2 (q ▸ List.mem_cons_self)), terms_run w r s _ (fun q => h1 (List.mem_cons_of_mem _ q)) (fun q => h2 (List.mem_cons_of_mem _ q)), List.append_assoc]
    rfl
theorem mk_tl' (t : Str) : (⟨(TL.tl t).toArray⟩ : Str) = t := TL.mk_tl t
theorem terms_below : ∀ (vs : List Str) (s : Int) (w : Str), (∀ v ∈ vs, trmOk v) → termsL s (TL.tl w) (vs.flatMap fun v => 47 :: TL.tl v) = (s, w) :: vs.map fun v => ((-1 : Int), v)
  | [], s, w, _ => by rw [List.flatMap_nil, termsL, mk_tl']; rfl
  | v :: r, s, w, h => by
    have hv := h v List.mem_cons_self
    rw [List.flatMap_cons, List.cons_append, termsL, if_pos (.inr rfl), mk_tl', if_neg (by decide), terms_run _ _ _ _ hv.1 hv.2, List.nil_append, terms_below r _ v fun y hy => h y (List.mem_cons_of_mem _ hy)]
    rfl
theorem terms_above : ∀ (ws vs : List Str) (s : Int) (w : Str), (∀ v ∈ ws, trmOk v) → (∀ v ∈ vs, trmOk v) → termsL s (TL.tl w) ((ws.flatMap fun v => 42 :: TL.tl v) ++ vs.flatMap fun v => 47 :: TL.tl v) = (s, w) :: (ws.map fun v => ((1 : Int), v)) ++ vs.map fun v => ((-1 : Int), v)
  | [], vs, s, w, _, h => terms_below vs s w h
  | v :: r, vs, s, w, h, g => by
    have hv := h v List.mem_cons_self
    rw [List.flatMap_cons, List.cons_append, List.cons_append, termsL, if_pos (.inl rfl), mk_tl', if_pos rfl, List.append_assoc, terms_run _ _ _ _ hv.1 hv.2, List.nil_append, terms_above r vs _ v (fun y hy => h y (List.mem_cons_of_mem _ hy)) g]
    rfl
theorem joinL_flat (w : List Nat) : ∀ ws : List (List Nat), TL.joinL [42] (w :: ws) = w ++ ws.flatMap fun v => 42 :: v
  | [] => by rw [List.flatMap_nil, List.append_nil]; rfl
  | v :: r => by
    show w ++ ([42] ++ TL.joinL [42] (v :: r)) = _
    rw [joinL_flat v r, List.flatMap_cons]
    rfl
theorem below_tl (l : List (Str × Int)) : TL.tl (belowL l) = ((l.filter fun x => decide (x.2 < 0)).map fun x => segA x.1 (-x.2)).flatMap fun v => 47 :: TL.tl v := by
  unfold belowL
  have h : ∀ (k : List (Str × Int)) (a : Str), (∀ x ∈ k, x.2 < 0) → TL.tl (k.foldl (fun a x => a ++ segB x.1 x.2) a) = TL.tl a ++ (k.map fun x => segA x.1 (-x.2)).flatMap fun v => 47 :: TL.tl v := by
    intro k
    induction k with
    | nil => intro a _; exact (List.append_nil _).symm
    | cons x r ih =>
      intro a hx
      rw [List.foldl_cons, ih _ fun y hy => hx y (List.mem_cons_of_mem _ hy), TL.tl_append, List.map_cons, List.flatMap_cons, List.append_assoc]
      congr 1
      have e : TL.tl (segB x.1 x.2) = 47 :: TL.tl (segA x.1 (-x.2)) := by
        unfold segB segA
        rw [TL.tl_append, TL.tl_append, TL.tl_append]
        have : dnT x.2 = upT (-x.2) := by
          unfold dnT upT
          by_cases q : x.2 < -1
          · rw [if_pos q, if_pos (by omega)]
          · rw [if_neg q, if_neg (by omega)]
        rw [this]
        rfl
      rw [e]
  rw [h _ "" fun x hx => by simpa using (List.mem_filter.mp hx).2]
  rfl
theorem tos_dig {p : Int} (h1 : 1 ≤ p) (h9 : p ≤ 9) : (Str.ofString (toString p)).cps.toList = [48 + p.toNat] := by
  obtain ⟨n, rfl⟩ := Int.eq_ofNat_of_zero_le (show 0 ≤ p by omega)
  match n, h1, h9 with
  | 1, _, _ => decide +kernel
  | 2, _, _ => decide +kernel
  | 3, _, _ => decide +kernel
  | 4, _, _ => decide +kernel
  | 5, _, _ => decide +kernel
  | 6, _, _ => decide +kernel
  | 7, _, _ => decide +kernel
  | 8, _, _ => decide +kernel
  | 9, _, _ => decide +kernel
  | 0, h, _ => exact absurd h (by decide)
  | n + 10, _, h => exact absurd h (by omega)
theorem upT_tl {p : Int} (h1 : 1 ≤ p) (h9 : p ≤ 9) : TL.tl (upT p) = if 1 < p then [94, 48 + p.toNat] else [] := by
  unfold upT
  by_cases h : 1 < p
  · rw [if_pos h, if_pos h, TL.tl_append]
    show _ ++ (Str.ofString (toString p)).cps.toList = _
    rw [tos_dig h1 h9]
    rfl
  · rw [if_neg h, if_neg h]
    rfl
theorem low_not {n : Str} (h : low n) {c : Nat} (hc : ¬ (97 ≤ c ∧ c ≤ 122)) : c ∉ TL.tl n := fun q => hc (h c q)
theorem seg_ok {n : Str} {p : Int} (h : low n) (h1 : 1 ≤ p) (h9 : p ≤ 9) : trmOk (segA n p) := by
  have e : TL.tl (segA n p) = TL.tl n ++ if 1 < p then [94, 48 + p.toNat] else [] := by
    unfold segA
    rw [TL.tl_append, upT_tl h1 h9]
  refine ⟨?_, ?_⟩ <;> (rw [e]; intro q; rcases List.mem_append.mp q with q | q; exact low_not h (by decide) q; by_cases z : 1 < p; rw [if_pos z] at q; simp at q; omega; rw [if_neg z] at q; cases q)
theorem seg_pow {n : Str} {p : Int} (h : low n) (h1 : 1 ≤ p) (h9 : p ≤ 9) : powV (segA n p) = (n, p) := by
  unfold segA upT powV
  by_cases z : 1 < p
  · rw [if_pos z, ← str_assoc, TL.partition_app (s := 94) (S := []) rfl (low_not h (by decide))]
    show (if ("^" : Str) = "" then _ else (n, figL (Str.ofString (toString p)).cps.toList)) = _
    rw [if_neg (by decide +kernel), tos_dig h1 h9]
    have : figL [48 + p.toNat] = p := by
      show (if 49 ≤ 48 + p.toNat ∧ 48 + p.toNat ≤ 57 then ((48 + p.toNat : Nat) : Int) - 48 else 0) = p
      rw [if_pos (by omega)]
      omega
    rw [this]
  · rw [if_neg z, str_emp, TL.partition_none (s := 94) (S := []) rfl (low_not h (by decide))]
    show (if Str.empty = "" then ((n, 1) : Str × Int) else _) = _
    rw [if_pos (by decide +kernel : Str.empty = ("" : Str))]
    have : p = 1 := by omega
    rw [this]
theorem seg_not1 {n : Str} {p : Int} (h : low n) (l : 1 ≤ n.length) : segA n p ≠ "1" := fun q => by
  have e : TL.tl n ++ TL.tl (upT p) = [49] := by rw [← TL.tl_append]; exact congrArg TL.tl q
  cases z : TL.tl n with
  | nil => have := TL.len_tl n; rw [z] at this; simp at this; omega
  | cons c r =>
    have hc := h c (show c ∈ TL.tl n by rw [z]; exact List.mem_cons_self)
    rw [z] at e
    have : c = 49 := by simpa using congrArg List.head? e
    omega
/-- a reading of such terms -/
def putAll (f : Str → Int) (l : List (Str × Int)) : Str → Int := fun m => f m + sumN l m
theorem rd_terms {ns : List Str} : ∀ (l : List (Int × Str × Int)) (i : Nat) (f : Str → Int) (r : List (Int × Str)), (∀ x ∈ l, low x.2.1 ∧ 1 ≤ x.2.1.length ∧ x.2.1 ∈ ns ∧ 1 ≤ x.2.2 ∧ x.2.2 ≤ 9) → rdL ns i ((l.map fun x => (x.1, segA x.2.1 x.2.2)) ++ r) f = rdL ns (i + l.length) r (putAll f (l.map fun x => (x.2.1, x.1 * x.2.2)))
  | [], i, f, r, _ => by
    have : putAll f ([].map fun x : Int × Str × Int => (x.2.1, x.1 * x.2.2)) = f := funext fun m => Int.add_zero _
    rw [this]
    rfl
  | x :: l, i, f, r, h => by
    obtain ⟨h1, h2, h3, h4, h5⟩ := h x List.mem_cons_self
    rw [List.map_cons, List.cons_append, rdL, if_neg (fun q => seg_not1 h1 h2 q.2), seg_pow h1 h4 h5, if_neg (fun q => by rcases q with q | q; (have : x.2.2 = 0 := q; omega); exact q h3), rd_terms l (i + 1) _ r fun y hy => h y (List.mem_cons_of_mem _ hy)]
    rw [show i + 1 + l.length = i + (x :: l).length by rw [List.length_cons]; omega]
    congr 1
    funext m
    unfold putAll putF
    rw [List.map_cons, sumN_cons]
    show (if m = x.2.1 then _ else _) + _ = _ + ((if x.2.1 = m then _ else _) + _)
    by_cases q : m = x.2.1
    · subst q
      rw [if_pos rfl, if_pos rfl]
      exact Int.add_assoc _ _ _
    · rw [if_neg q, if_neg (fun z => q z.symm)]; omega
theorem seg_len {n : Str} {p : Int} (l : n.length ≤ 12) (h1 : 1 ≤ p) (h9 : p ≤ 9) : (segA n p).length ≤ 14 := by
  have e : (segA n p).length = n.length + (upT p).length := app_len _ _
  have e2 : (upT p).length ≤ 2 := by
    rw [TL.len_tl, upT_tl h1 h9]
    split
    · exact Nat.le_refl 2
    · exact Nat.zero_le 2
  omega
theorem flat_len (c : Nat) : ∀ ws : List Str, (∀ w ∈ ws, w.length ≤ 14) → (ws.flatMap fun v => c :: TL.tl v).length ≤ 15 * ws.length
  | [], _ => Nat.le_refl _
  | w :: r, h => by
    have ih := flat_len c r fun y hy => h y (List.mem_cons_of_mem _ hy)
    have hw := h w List.mem_cons_self
    rw [List.flatMap_cons, List.length_append, List.length_cons, List.length_cons, ← TL.len_tl]
    omega
theorem filt2_len : ∀ l : List (Str × Int), (l.filter fun x => decide (0 < x.2)).length + (l.filter fun x => decide (x.2 < 0)).length ≤ l.length
  | [] => Nat.le_refl _
  | x :: r => by
    have ih := filt2_len r
    rw [List.filter_cons, List.filter_cons, List.length_cons]
    by_cases h : 0 < x.2
    · rw [if_pos (by simpa using h), if_neg (by simp; omega), List.length_cons]; omega
    · rw [if_neg (by simpa using h)]
      split
      · rw [List.length_cons]; omega
      · omega
/-- THE ROUND TRIP -/
theorem read_write {ns : List Str} {xs : List Int} (nd : ns.Nodup) (hl : ns.length = xs.length) (h6 : ns.length ≤ 12) (hn : ∀ n ∈ ns, low n ∧ 1 ≤ n.length ∧ n.length ≤ 12) (hx : inR xs = true) : readV (writV ns xs) ns = some xs ∧ (writV ns xs).length ≤ 200 := by
  have pr : ∀ x ∈ ns.zip xs, low x.1 ∧ 1 ≤ x.1.length ∧ x.1.length ≤ 12 ∧ x.1 ∈ ns ∧ -9 ≤ x.2 ∧ x.2 ≤ 9 := fun x h => by
    obtain ⟨h1, h2⟩ := List.of_mem_zip (show (x.1, x.2) ∈ _ from h)
    have h3 := hn _ h1
    have h4 := List.all_eq_true.mp hx _ h2
    simp at h4
    exact ⟨h3.1, h3.2.1, h3.2.2, h1, h4.1, h4.2⟩
  have zl : (ns.zip xs).length ≤ 12 := by rw [List.length_zip]; omega
  have fl := filt2_len (ns.zip xs)
  have hA : ∀ x ∈ (ns.zip xs).filter (fun x => decide (0 < x.2)), low x.1 ∧ 1 ≤ x.1.length ∧ x.1.length ≤ 12 ∧ x.1 ∈ ns ∧ 1 ≤ x.2 ∧ x.2 ≤ 9 := fun x h => by
    obtain ⟨h1, h2⟩ := List.mem_filter.mp h
    obtain ⟨a, b, c, d, e, f⟩ := pr x h1
    simp at h2
    exact ⟨a, b, c, d, by omega, f⟩
  have hB : ∀ x ∈ (ns.zip xs).filter (fun x => decide (x.2 < 0)), low x.1 ∧ 1 ≤ x.1.length ∧ x.1.length ≤ 12 ∧ x.1 ∈ ns ∧ 1 ≤ -x.2 ∧ -x.2 ≤ 9 := fun x h => by
    obtain ⟨h1, h2⟩ := List.mem_filter.mp h
    obtain ⟨a, b, c, d, e, f⟩ := pr x h1
    simp at h2
    exact ⟨a, b, c, d, by omega, by omega⟩
  have sp : ∀ m, sumN ((ns.zip xs).filter fun x => decide (0 < x.2)) m + sumN ((ns.zip xs).filter fun x => decide (x.2 < 0)) m = sumN (ns.zip xs) m := fun m => sumN_split m _
  have sz := sumN_zip nd hl
  have bt := below_tl (ns.zip xs)
  have ea : aboveL (ns.zip xs) = ((ns.zip xs).filter fun x => decide (0 < x.2)).map fun x => segA x.1 x.2 := rfl
  generalize (ns.zip xs).filter (fun x => decide (0 < x.2)) = A at hA sp fl ea
  generalize (ns.zip xs).filter (fun x => decide (x.2 < 0)) = B at hB sp fl bt
  -- what is read of the terms
  have fin : ∀ (z : Str) (ts : List (Int × Str)), termsV z = ts → z.length ≤ 200 → rdL ns 0 ts (fun _ => 0) = some (putAll (putAll (fun _ => 0) (A.map fun x => (x.1, 1 * x.2))) (B.map fun x => (x.1, -1 * -x.2))) → readV z ns = some xs := by
    intro z ts e1 e2 e3
    unfold readV
    rw [if_neg (by omega), e1, e3]
    have e4 : ns.map (putAll (putAll (fun _ => 0) (A.map fun x => (x.1, 1 * x.2))) (B.map fun x => (x.1, -1 * -x.2))) = xs := by
      rw [show (A.map fun x => ((x.1, 1 * x.2) : Str × Int)) = A by
        rw [List.map_congr_left (g := id) fun x _ => by rw [Int.one_mul]; rfl, List.map_id]]
      rw [show (B.map fun x => ((x.1, -1 * -x.2) : Str × Int)) = B by
        rw [List.map_congr_left (g := id) fun x _ => by rw [show -1 * -x.2 = x.2 by omega]; rfl, List.map_id]]
      conv => rhs; rw [← sz]
      refine List.map_congr_left fun m _ => ?_
      unfold putAll
      show 0 + sumN A m + sumN B m = _
      rw [Int.zero_add, sp m]
    show (if inR (ns.map _) = true then some (ns.map _) else none) = _
    rw [e4, if_pos hx]
  have rB : ∀ (i : Nat) (f : Str → Int), rdL ns i (B.map fun x => ((-1 : Int), segA x.1 (-x.2))) f = some (putAll f (B.map fun x => (x.1, -1 * -x.2))) := fun i f => by
    have := rd_terms (B.map fun x => ((-1 : Int), x.1, -x.2)) i f [] fun y hy => by
      obtain ⟨x, hx, rfl⟩ := List.mem_map.mp hy
      obtain ⟨a, b, c, d, e, g⟩ := hB x hx
      exact ⟨a, b, d, e, g⟩
    rw [List.append_nil, List.map_map, List.map_map] at this
    exact this
  have oB : ∀ v ∈ B.map (fun x => segA x.1 (-x.2)), trmOk v ∧ v.length ≤ 14 := fun v hv => by
    obtain ⟨x, hx, rfl⟩ := List.mem_map.mp hv
    obtain ⟨a, b, c, d, e, g⟩ := hB x hx
    exact ⟨seg_ok a e g, seg_len c e g⟩
  have oA : ∀ v ∈ A.map (fun x => segA x.1 x.2), trmOk v ∧ v.length ≤ 14 := fun v hv => by
    obtain ⟨x, hx, rfl⟩ := List.mem_map.mp hv
    obtain ⟨a, b, c, d, e, g⟩ := hA x hx
    exact ⟨seg_ok a e g, seg_len c e g⟩
  have lB := flat_len 47 _ fun v hv => (oB v hv).2
  rw [List.length_map] at lB
  unfold writV
  rw [ea]
  cases A with
  | nil =>
    rw [if_pos (show ([].map fun x : Str × Int => segA x.1 x.2) = [] from rfl)]
    have tl1 : TL.tl (("1" : Str) ++ belowL (ns.zip xs)) = TL.tl ("1" : Str) ++ (B.map fun x => segA x.1 (-x.2)).flatMap fun v => 47 :: TL.tl v := by rw [TL.tl_append, bt]
    have ln : (("1" : Str) ++ belowL (ns.zip xs)).length ≤ 200 := by
      rw [TL.len_tl, tl1, List.length_append]
      show 1 + _ ≤ 200
      omega
    refine ⟨fin _ _ (show termsL 1 [] (TL.tl _) = _ from by
      rw [tl1, terms_run _ _ _ _ (by decide) (by decide), List.nil_append, terms_below _ _ _ fun v hv => (oB v hv).1]) ln ?_, ln⟩
    rw [rdL, if_pos ⟨rfl, rfl⟩, List.map_map]
    have e0 : putAll (fun _ => 0) ([].map fun x : Str × Int => (x.1, 1 * x.2)) = fun _ => 0 := funext fun m => rfl
    rw [e0]
    exact rB _ _
  | cons x A =>
    have hx0 := oA _ (List.mem_cons_self : segA x.1 x.2 ∈ segA x.1 x.2 :: A.map fun x => segA x.1 x.2)
    have oA' : ∀ v ∈ A.map (fun x => segA x.1 x.2), trmOk v ∧ v.length ≤ 14 := fun v hv => oA v (List.mem_cons_of_mem _ hv)
    have lA := flat_len 42 _ fun v hv => (oA' v hv).2
    rw [List.length_map] at lA
    rw [List.length_cons] at fl
    rw [if_neg (by simp), List.map_cons]
    have tl1 : TL.tl (Txt.join "*" (segA x.1 x.2 :: A.map fun x => segA x.1 x.2) ++ belowL (ns.zip xs)) = TL.tl (segA x.1 x.2) ++ (((A.map fun x => segA x.1 x.2).flatMap fun v => 42 :: TL.tl v) ++ (B.map fun x => segA x.1 (-x.2)).flatMap fun v => 47 :: TL.tl v) := by
      rw [TL.tl_append, bt, TL.join_eq, TL.tl_join, List.map_cons]
      show TL.joinL [42] _ ++ _ = _
      rw [joinL_flat, List.append_assoc, List.flatMap_map]
    have ln : (Txt.join "*" (segA x.1 x.2 :: A.map fun x => segA x.1 x.2) ++ belowL (ns.zip xs)).length ≤ 200 := by
      rw [TL.len_tl, tl1, List.length_append, List.length_append, ← TL.len_tl]
      have := hx0.2
      omega
    refine ⟨fin _ _ (show termsL 1 [] (TL.tl _) = _ from by
      rw [tl1, terms_run _ _ _ _ hx0.1.1 hx0.1.2, List.nil_append, terms_above _ _ _ _ (fun v hv => (oA' v hv).1) fun v hv => (oB v hv).1]) ln ?_, ln⟩
    have rA := rd_terms ((x :: A).map fun x => ((1 : Int), x.1, x.2)) 0 (fun _ => 0) (B.map fun x => ((-1 : Int), segA x.1 (-x.2))) fun y hy => by
      obtain ⟨z, hz, rfl⟩ := List.mem_map.mp hy
      obtain ⟨a, b, c, d, e, g⟩ := hA z hz
      exact ⟨a, b, d, e, g⟩
    rw [List.map_map, List.map_map, rB] at rA
    rw [List.map_map, List.map_map]
    exact rA
theorem eqva_strs : ∀ (xs : List Str), PyData.eqvAll (xs.map PyData.str) (xs.map PyData.str) = true
  | [] => rfl
  | x :: r => by rw [List.map_cons, PyData.eqvAll, eqva_strs r]; simp [PyData.eqv]
/-- an expression read once -/
theorem s_once {te : TE} {σ : L2.St} {H : Hp} {Q : VK} (M : V → Hp → Prop) (h1 : ∀ v H', M v H' → Q v H') (h2 : ∀ P : VK, (∀ v H', M v H' → P v H') → te σ H P) : te σ H Q := h2 Q h1
theorem cut_known (zs : List Str) (h : 2 ≤ zs.length) : cutV (zs.map V.str) none (some (((zs.map V.str).length : Int) - 1)) = (zs.take (zs.length - 1)).map V.str := by
  have nn : ((zs.map V.str).length : Int) - 1 = ((zs.length - 1 : Nat) : Int) := by rw [List.length_map]; omega
  unfold cutV
  rw [nn, HT.sIx_none, HT.sIx_nat, List.drop_zero, List.length_map, Nat.sub_zero, Nat.min_eq_left (by omega), List.map_take]
theorem cut_last (zs : List Str) (lo : Option Int) : ∃ ys : List Str, cutV (zs.map V.str) lo none = ys.map V.str ∧ ys.length ≤ zs.length ∧ ∀ y ∈ ys, y ∈ zs := by
  unfold cutV
  refine ⟨(zs.drop (HT.sIx (zs.map V.str).length 0 lo)).take (HT.sIx (zs.map V.str).length (zs.map V.str).length none - HT.sIx (zs.map V.str).length 0 lo), by rw [List.map_take, List.map_drop], ?_, fun y hy => List.mem_of_mem_drop (List.mem_of_mem_take hy)⟩
  rw [List.length_take, List.length_drop]
  omega
section
variable {P : Program} {w : World} {K : PySem.W.Frag} {mg : Str → Option Value} {base : Heap}
variable {cE cH cU cW : Addr}
theorem ok_law (T : Tp P K mg cE cH cU cW)
    (c_l_bag_of : Cal P w K mg base 1 "_law_bag_of" P_l_bag_of [] (spBagOf K))
    (c_l_dimension : Cal P w K mg base 2 "_law_dimension" P_l_dimension [] (spDimension K))
    (c_l_long_texts : Cal P w K mg base 1 "_law_long_texts" P_l_long_texts [] (spLongTexts))
    (c_l_odd_texts : Cal P w K mg base 1 "_law_odd_texts" P_l_odd_texts [] (spOddTexts))
    (c_l_one_in : Cal P w K mg base 2 "_law_one_in" P_l_one_in [] (spOne))
    (c_l_own_names : Cal P w K mg base 4 "_law_own_names" P_l_own_names [] (spOwnNames))
    (c_l_pick : Cal P w K mg base 1 "_law_pick" P_l_pick [] (spPick))
    (c_l_powers_of : Cal P w K mg base 2 "_law_powers_of" P_l_powers_of [] (spPowers K))
    (c_l_product : Cal P w K mg base 4 "_law_product" P_l_product [] (spProduct K))
    (c_l_right_bases : Cal P w K mg base 4 "_law_right_bases" P_l_right_bases [] (spRightBases K))
    (c_l_right_kinds : Cal P w K mg base 3 "_law_right_kinds" P_l_right_kinds [] (spRightKinds K))
    (c_l_right_names : Cal P w K mg base 2 "_law_right_names" P_l_right_names [] (spRightNames K))
    (c_l_right_products : Cal P w K mg base 5 "_law_right_products" P_l_right_products [] (spRightProducts K))
    (c_l_right_reading : Cal P w K mg base 4 "_law_right_reading" P_l_right_reading [] (spRightReading K))
    (c_l_same : Cal P w K mg base 2 "_law_same" P_l_same [] (spSame K))
    (c_l_spoilt : Cal P w K mg base 3 "_law_spoilt" P_l_spoilt [] (spSpoilt))
    (c_l_written : Cal P w K mg base 1 "_law_written" P_l_written [] (spLWrite K))
    (c_read_product : Cal P w K mg base 3 "read_product" P_read_product [] (spRead K))
    (c_write_product : Cal P w K mg base 1 "write_product" P_write_product [] (spWrite K))
    {f : Addr} {fd : FuncData} {dvs : List V} (F : FunD K "law" "law" (defArgs s_law) (defBody s_law) (defScope s_law) dvs [] f fd) : FnG P w K mg base 6 f fd P_law (spLaw K) := by
  refine fng F sc_law (by walk_at "ulen") (fun cdv A outer s H vs Q E hr0 hg0 h => ?_)
  have hr : Rm 5 (A.deeper (envOfC "law" (defScope s_law) s.heap.objs.size f cdv)) := ⟨hr0, hg0⟩
  have nd : N_law.Nodup := sc_law.nd
  have po : PassesOwn (model P w) (cxOf (L2.CX P w) P w K mg base N_law "law" (defScope s_law) f cdv A outer s H E).A (cxOf (L2.CX P w) P w K mg base N_law "law" (defScope s_law) f cdv A outer s H E).env (cxOf (L2.CX P w) P w K mg base N_law "law" (defScope s_law) f cdv A outer s H E).xe := passes_of rfl
  obtain ⟨p, ns, rfl, hp, hl, hb, k⟩ := h
  refine ⟨_, (pss_cons (ps_set (i := 1) nd rfl (Or.inr rfl) (pe_c (E := En) c_l_bag_of (hr.mono (by decide)) paN (pa_cons (pv 0) pa_nil)))
    (pss_cons (ps_set (i := 2) nd rfl (Or.inl rfl) (pe_c (E := En) c_l_own_names (hr.mono (by decide)) paN (pa_cons (pv 1) pa_nil)))
    (pss_cons (ps_if (pt_not (pt_val (pe_c (E := En) c_l_right_names (hr.mono (by decide)) paN (pa_cons (pv 2) pa_nil)))) (pss_one (ps_ret pe_bl)) pss_nil)
    (pss_cons (ps_set (i := 3) nd rfl (Or.inl rfl) (pe_slice sl_u (pv 2) po_none (po_some (pe_op op_sub (pe_callB call_uLen (by rfl) T.len b_len (pa_cons (pv 2) pa_nil)) pe_int))))
    (pss_cons (ps_set (i := 4) nd rfl (Or.inr rfl) (pe_ifExp (pt_val (pe_c (E := En) c_l_one_in (hr.mono (by decide)) paN (pa_cons (pv 1) (pa_cons pe_int pa_nil)))) (pe_op op_uAdd (pv 3) (pe_slice sl_u (pv 2) (po_some (pe_op op_sub (pe_callB call_uLen (by rfl) T.len b_len (pa_cons (pv 2) pa_nil)) pe_int)) po_none)) (pv 3)))
    (pss_cons (ps_setLc (i := 5) (own := [("_law_turn", 6)]) (g := gName 6) (by rfl) nd rfl rfl (sw_true rfl rfl rfl (by decide +kernel)) (pi_range1 (by rfl) T.range (pa_cons pe_int pa_nil)) (blkOk_by (own := [("_law_turn", 6)]) (N := N_law) (sc := defScope s_law) (by decide +kernel)) (fun s_ H_ C_ cl_ fp_ => pg_name (i := 6) nd rfl (Or.inl rfl)) (fun s_ H_ C_ cl_ fp_ => pts_nil) (fun s_ H_ C_ cl_ fp_ => (pe_c (E := En) c_l_product (hr.mono (by decide)) paN (pa_cons (pv 1) (pa_cons (pv 4) pa_nil)))))
    (pss_cons (ps_set (i := 5) nd rfl (Or.inl rfl) (pe_op op_uAdd (pe_op op_uAdd (pv 5) (pe_lc (own := [("_law_text", 7)]) (g := gName 7) (by rfl) nd (pi_list (pv 5)) (blkOk_by (own := [("_law_text", 7)]) (N := N_law) (sc := defScope s_law) (by decide +kernel)) (fun s_ H_ C_ cl_ fp_ => pg_name (i := 7) nd rfl (Or.inl rfl)) (fun s_ H_ C_ cl_ fp_ => pts_nil) (fun s_ H_ C_ cl_ fp_ => (pe_c (E := En) c_l_spoilt (hr.mono (by decide)) paN (pa_cons (pv 1) (pa_cons (pv 7) pa_nil)))))) (pe_lst (pa_cons (pe_c (E := En) c_l_spoilt (hr.mono (by decide)) paN (pa_cons (pv 1) (pa_cons (pe_ix ix_seq (pv 5) pe_int (fun _ _ => rfl)) pa_nil))) pa_nil))))
    (pss_cons (ps_for po rfl (pi_list (pe_op op_uAdd (pv 5) (pe_c (E := En) c_l_odd_texts (hr.mono (by decide)) paN (pa_cons (pe_ix ix_seq (pv 3) pe_int (fun _ _ => rfl)) (pa_cons (pe_ix ix_seq (pv 3) (pe_op op_sub (pe_callB call_uLen (by rfl) T.len b_len (pa_cons (pv 3) pa_nil)) pe_int) (fun _ _ => rfl)) pa_nil))))) (pg_name (i := 7) nd rfl (Or.inl rfl))
    (pss_one (ps_if (pt_not (pt_val (pe_c (E := En) c_l_right_reading (hr.mono (by decide)) paN (pa_cons (pv 7) (pa_cons (pv 3) pa_nil))))) (pss_one (ps_ret pe_bl)) pss_nil)))
    (pss_cons (ps_for po rfl (pi_list (pe_c0 c_l_long_texts (hr.mono (by decide)) (E := En) paN)) (pg_name (i := 7) nd rfl (Or.inl rfl))
    (pss_one (ps_if (PW.pt (pw_or (pt_not (pt_val (pe_c (E := En) c_l_right_reading (hr.mono (by decide)) paN (pa_cons (pv 7) (pa_cons (pe_lst (pa_cons pe_str (pa_cons pe_str pa_nil))) pa_nil))))) (pw_or1 (pt_not (pt_val (pe_c (E := En) c_l_same (hr.mono (by decide)) paN (pa_cons (pe_c (E := En) c_read_product (hr.mono (by decide)) paN (pa_cons (pv 7) (pa_cons (pe_tup (pa_cons pe_str (pa_cons pe_str (pa_cons pe_str pa_nil)))) pa_nil))) (pa_cons (pe_c (E := En) c_l_powers_of (hr.mono (by decide)) paN (pa_cons (pv 7) (pa_cons (pe_lst (pa_cons pe_str (pa_cons pe_str (pa_cons pe_str pa_nil)))) pa_nil))) pa_nil)))))))) (pss_one (ps_ret pe_bl)) pss_nil)))
    (pss_cons (ps_for po rfl (pi_range1 (by rfl) T.range (pa_cons pe_int pa_nil)) (pg_name (i := 6) nd rfl (Or.inl rfl))
    (pss_cons (ps_set (i := 8) nd rfl (Or.inl rfl) (pe_c (E := En) c_l_dimension (hr.mono (by decide)) paN (pa_cons (pv 1) (pa_cons (pe_callB call_uLen (by rfl) T.len b_len (pa_cons (pv 3) pa_nil)) pa_nil))))
    (pss_cons (ps_set (i := 9) nd rfl (Or.inl rfl) (pe_callTy call_uList (by rfl) T.list b_list (pa_cons (pv 3) pa_nil)))
    (pss_cons (ps_set (i := 10) nd rfl (Or.inl rfl) (pe_c (E := En) c_write_product (hr.mono (by decide)) paN (pa_cons (pv 9) (pa_cons (pv 8) pa_nil))))
    (pss_cons (ps_if (PW.pt (pw_or (pt_not (pt_val (pe_callB call_isi (by rfl) T.isinstance b_isinstance (pa_cons (pv 10) (pa_cons (pe_bltn (v := .ty "str") (by rfl) T.str b_str rfl) pa_nil))))) (pw_or (pt_cmpR (op_uNe hr.r.units) (pv 10) (pe_c (E := En) c_l_written (hr.mono (by decide)) paN (pa_cons (pv 3) (pa_cons (pv 8) pa_nil))) (nomark _)) (pw_or1 (pt_cmpR (op_uNe hr.r.units) (pv 9) (pv 3) (nomark _)))))) (pss_one (ps_ret pe_bl)) pss_nil)
    (pss_one (ps_if (PW.pt (pw_or (pt_cmpR (op_uNe hr.r.units) (pe_c (E := En) c_write_product (hr.mono (by decide)) paN (pa_cons (pe_callTy call_uTup (by rfl) T.tuple b_tuple (pa_cons (pv 3) pa_nil)) (pa_cons (pv 8) pa_nil))) (pv 10) (nomark _)) (pw_or1 (pt_not (pt_val (pe_c (E := En) c_l_same (hr.mono (by decide)) paN (pa_cons (pe_c (E := En) c_read_product (hr.mono (by decide)) paN (pa_cons (pv 10) (pa_cons (pe_callTy call_uTup (by rfl) T.tuple b_tuple (pa_cons (pv 9) pa_nil)) pa_nil))) (pa_cons (pv 8) pa_nil)))))))) (pss_one (ps_ret pe_bl)) pss_nil)))))))
    (pss_cons (ps_set (i := 9) nd rfl (Or.inl rfl) (pe_callTy call_uList (by rfl) T.list b_list (pa_cons (pv 3) pa_nil)))
    (pss_cons (ps_if (PW.pt (pw_or (pt_not (pt_val (pe_c (E := En) c_l_same (hr.mono (by decide)) paN (pa_cons (pe_c (E := En) c_read_product (hr.mono (by decide)) paN (pa_cons (pe_ix ix_seq (pv 5) pe_int (fun _ _ => rfl)) (pa_cons (pv 9) pa_nil))) (pa_cons (pe_c (E := En) c_l_powers_of (hr.mono (by decide)) paN (pa_cons (pe_ix ix_seq (pv 5) pe_int (fun _ _ => rfl)) (pa_cons (pv 3) pa_nil))) pa_nil))))) (pw_or1 (pt_cmpR (op_uNe hr.r.units) (pv 9) (pv 3) (nomark _))))) (pss_one (ps_ret pe_bl)) pss_nil)
    (pss_cons (ps_set (i := 11) nd rfl (Or.inl rfl) (pe_op op_uAdd pe_int (pe_c (E := En) c_l_pick (hr.mono (by decide)) paN (pa_cons (pv 1) (pa_cons pe_int pa_nil)))))
    (pss_cons (ps_set (i := 12) nd rfl (Or.inl rfl) (pe_c (E := En) c_l_dimension (hr.mono (by decide)) paN (pa_cons (pv 1) (pa_cons (pv 11) pa_nil))))
    (pss_cons (ps_set (i := 13) nd rfl (Or.inl rfl) (pe_c (E := En) c_l_dimension (hr.mono (by decide)) paN (pa_cons (pv 1) (pa_cons (pv 11) pa_nil))))
    (pss_one (ps_ret (pe_and (pe_c (E := En) c_l_right_products (hr.mono (by decide)) paN (pa_cons (pv 12) (pa_cons (pv 13) pa_nil))) (pe_and (pe_c (E := En) c_l_right_kinds (hr.mono (by decide)) paN (pa_cons (pv 1) (pa_cons (pv 12) pa_nil))) (pe_one (pe_c (E := En) c_l_right_bases (hr.mono (by decide)) paN (pa_cons (pv 2) pa_nil)))))))))))))))))))))), ?_⟩
  walk_at "uk"
  walk_at "uz"
  refine ⟨p, ns, rfl, hp, hl, hb, fun b H1 e1 hb1 => ?_⟩
  walk_at "uz"
  refine ⟨b, rfl, hb1, fun q zs H2 z2 z7 N k2 hq => ?_⟩
  walk_at "uz"
  refine ⟨q, zs, rfl, hq, N, z2, z7, fun H3 e3 => ?_⟩
  have hq3 := e3 _ _ hq
  have k3 := e3.kb k2.b1
  clear e1 hb1 k2 hq e3
  walk_at "uz"
  refine s_slL (.of hq3) fun q3 H4 e4 hk => ?_
  rw [cut_known zs z2] at hk
  have kl : (zs.take (zs.length - 1)).length = zs.length - 1 := by rw [List.length_take]; omega
  have knd : (zs.take (zs.length - 1)).Nodup := (List.take_sublist _ _).nodup N.nd
  have kis : ∀ z ∈ zs.take (zs.length - 1), NameIs z := fun z hz => N.each z (List.mem_of_mem_take hz)
  generalize zs.take (zs.length - 1) = ks at hk kl knd kis
  have k32 : ∀ n ∈ ks, 32 ∉ n.cps.toList := fun n hn => low_not (kis n hn).low (by decide)
  have hq4 := e4 _ _ hq3
  have kb4 := (e4.kb k3.b1).b1
  clear k3 hq3 e4
  walk_at "uz0"
  walk_at "uz0"
  walk_at "uz0"
  refine s_once (fun v H' => ∃ (q4 : Addr) (ds : List Str), v = .ref q4 ∧ Kb b H4 H' ∧ H' q4 = some (.lst (ds.map V.str)) ∧ 1 ≤ ds.length ∧ ds.length ≤ 100 ∧ ∀ z ∈ ds, z.length ≤ 12) ?_ (fun P hP => ?_)
  · rintro v H5 ⟨q4, ds, rfl, k5, hd, d1, d100, d12⟩
    have hq5 := k5.at hq4 fun _ z => by cases z
    have hk5 := k5.at hk fun _ z => by cases z
    have kb5 := k5.b1
    clear hq4 hk kb4 k5
    walk_at "uz"
    refine ⟨3, rfl, by omega, by omega, ?_⟩
    refine lcRng (n := (3 : Int).toNat) (fun D i acc H' => Kb b H5 H' ∧ ∃ ys : List Str, H' D = some (.lst (ys.map V.str)) ∧ (∀ y ∈ ys, y.length ≤ 500) ∧ ys.length = i) (fun D n => ⟨(exN n).kb kb5, [], upd_same, (fun y h => by cases h), rfl⟩) ?_ ?_
    · rintro D acc H6 nD ⟨k6, ys, hD, y5, yl⟩
      have yl3 : ys.length = 3 := yl
      have hq6 := k6.at hq5 fun _ z => by cases z
      have hk6 := k6.at hk5 fun _ z => by cases z
      have kb6 := k6.b1
      clear k6 hq5 hk5 kb5 hd nD
      obtain ⟨t0, ht0⟩ : ∃ n, ys[0]? = some n := ⟨_, List.getElem?_eq_getElem (by omega)⟩
      obtain ⟨t1, ht1⟩ : ∃ n, ys[1]? = some n := ⟨_, List.getElem?_eq_getElem (by omega)⟩
      have len1 := y5 t1 (List.mem_of_getElem? ht1)
      have tl0 := y5 t0 (List.mem_of_getElem? ht0)
      walk_at "uz"
      refine s_drawc (d := 5000) kb6 (.of hD) (by rw [yl3]; decide) (fun v => rfl) (fun z hz Hx Qx bx qx => ?_) fun r ws H7 k7 hr w5 wl => ?_
      · walk_at "uz"
        exact ⟨b, z, rfl, bx, y5 z hz, fun x H' hx kx => qx x H' hx kx⟩
      refine s_addL (k7.at hD fun _ z => by cases z) hr (by rw [List.length_map, List.length_map, wl, yl3]; decide) fun r2 n2 => ?_
      rw [← List.map_append]
      have k8 := k7.tr ((exN (o := .lst ((ys ++ ws).map V.str)) n2).kb k7.b1)
      have h8 : upd H7 r2 (.lst ((ys ++ ws).map V.str)) r2 = some (.lst ((ys ++ ws).map V.str)) := upd_same
      generalize upd H7 r2 (.lst ((ys ++ ws).map V.str)) = H8 at k8 h8
      have a0 : atI (ys.map V.str) 0 = some (.str t0) := atI_nat (j := 0) (by rw [List.getElem?_map, ht0]; rfl)
      refine s_lstE ?_
      walk_at "uz"
      refine s_ixL (.of (k8.at hD fun _ z => by cases z)) a0 ?_
      walk_at "uz"
      refine ⟨b, t0, rfl, k8.b1, tl0, fun x H9 hx k9 => ?_⟩
      have h9 := k9.at h8 fun _ z => by cases z
      have k89 := k8.tr k9
      walk_at "uz"
      refine s_szN (Nat.le_of_ble_eq_true rfl) fun r3 n3 => ?_
      have kA := k89.tr ((exN (o := .lst [.str x]) n3).kb k89.b1)
      have hA := exN (o := .lst [.str x]) n3 _ _ h9
      refine s_addL (ys := [.str x]) hA upd_same (by rw [List.length_map, List.length_append, wl, yl3]; exact Nat.le_of_ble_eq_true rfl) fun r4 n4 => ?_
      have kB := kA.tr ((exN (o := .lst ((ys ++ ws).map V.str ++ [.str x])) n4).kb kA.b1)
      have hB : upd (upd H9 r3 (.lst [.str x])) r4 (.lst ((ys ++ ws).map V.str ++ [.str x])) r4 = some (.lst ((ys ++ ws ++ [x]).map V.str)) := by rw [List.map_append (l₁ := ys ++ ws)]; exact upd_same
      have xs5 : ∀ z ∈ ys ++ ws ++ [x], z.length ≤ 5000 := fun z hz => by
        rcases List.mem_append.mp hz with hz | hz
        · rcases List.mem_append.mp hz with hz | hz
          · exact Nat.le_trans (y5 z hz) (by decide)
          · exact w5 z hz
        · rw [List.mem_singleton.mp hz]; exact hx
      have xsl : (ys ++ ws ++ [x]).length = 7 := by rw [List.length_append, List.length_append, wl, yl3]; rfl
      have xs1 : (ys ++ ws ++ [x])[1]? = some t1 := by rw [List.append_assoc, List.getElem?_append_left (by omega)]; exact ht1
      generalize upd (upd H9 r3 (.lst [.str x])) r4 (.lst ((ys ++ ws).map V.str ++ [.str x])) = HB at kB hB
      generalize ys ++ ws ++ [x] = xs at hB xs5 xsl xs1
      have hqB := kB.at hq6 fun _ z => by cases z
      have hkB := kB.at hk6 fun _ z => by cases z
      have kbB := kB.b1
      clear hA kA k89 h9 k9 h8 k8 n2 n3 n4 k7 hr w5 wl hD y5 yl yl3 ht0 tl0 a0 hq6 hk6 kb6 hx kB ht1
      walk_at "uz"
      obtain ⟨m0, hm0⟩ : ∃ n, ks[0]? = some n := ⟨_, List.getElem?_eq_getElem (by omega)⟩
      obtain ⟨m1, hm1⟩ : ∃ n, ks[ks.length - 1]? = some n := ⟨_, List.getElem?_eq_getElem (by omega)⟩
      refine s_ixL (.of hkB) (atI_nat (j := 0) (show (ks.map V.str)[0]? = some (.str m0) by rw [List.getElem?_map, hm0]; rfl)) ?_
      walk_at "uz"
      have am1 : atI (ks.map V.str) (((ks.map V.str).length : Int) - 1) = some (.str m1) := by
        rw [show ((ks.map V.str).length : Int) - 1 = ((ks.length - 1 : Nat) : Int) by rw [List.length_map]; omega]
        exact atI_nat (by rw [List.getElem?_map, hm1]; rfl)
      refine s_ixL (.of hkB) am1 ?_
      walk_at "uz"
      refine ⟨m0, m1, rfl, (kis m0 (List.mem_of_getElem? hm0)).l2, (kis m1 (List.mem_of_getElem? hm1)).l2, fun r5 os HC o5 ol eC hC => ?_⟩
      refine s_addL (eC _ _ hB) hC (by rw [List.length_map, List.length_map, xsl]; show _ ≤ 16777216; omega) fun r6 n6 => ?_
      rw [← List.map_append]
      have eD := eC.tr (exN (o := .lst ((xs ++ os).map V.str)) n6)
      have hD : upd HC r6 (.lst ((xs ++ os).map V.str)) r6 = some (.lst ((xs ++ os).map V.str)) := upd_same
      generalize upd HC r6 (.lst ((xs ++ os).map V.str)) = HD at eD hD
      have all5 : ∀ z ∈ xs ++ os, z.length ≤ 5000 := fun z hz => by
        rcases List.mem_append.mp hz with hz | hz
        · exact xs5 z hz
        · exact o5 z hz
      generalize xs ++ os = as at hD all5
      clear hC eC n6 o5 ol xs5 hm0 hm1
      refine loopL (xs := as.map V.str) (fun i σ' H' => Ex HB H' ∧ Ex HD H' ∧ ∃ o7, σ' = [some (V.ref p), some (.ref b), some (.ref q), some (.ref q3), some (.ref q4), some (.ref r4), none, o7, none, none, none, none, none, none]) ⟨eD, exR _, none, rfl⟩ (fun i σ' H' h => .of (h.2.1 _ _ hD)) ?_ ?_
      · clear hD all5 eD
        rintro σ' HE ⟨eE, _, o7, rfl⟩
        walk_at "uz"
        refine ⟨rfl, fun r7 ls HF l5 _ eF hF => ?_⟩
        refine loopL (xs := ls.map V.str) (fun i σ' H' => Ex HB H' ∧ Ex HF H' ∧ ∃ o7, σ' = [some (V.ref p), some (.ref b), some (.ref q), some (.ref q3), some (.ref q4), some (.ref r4), none, o7, none, none, none, none, none, none]) ⟨eE.tr eF, exR _, o7, rfl⟩ (fun i σ' H' h => .of (h.2.1 _ _ hF)) ?_ ?_
        · clear hF l5 eE eF
          rintro σ' HG ⟨eG, _, o7, rfl⟩
          walk_at "uz"
          have hkG := eG _ _ hkB
          have hqG := eG _ _ hqB
          have hBG := eG _ _ hB
          have kbG := (eG.kb kbB).b1
          clear hkB hqB hB kbB eG
          have klow : ∀ n ∈ ks, low n ∧ 1 ≤ n.length ∧ n.length ≤ 12 := fun n hn => ⟨(kis n hn).low, (kis n hn).l1, (kis n hn).l2⟩
          have shk : SeqAt.shaped (.list (ks.map PyData.str)) = true := by
            have so : PyData.canLayAll0 (ks.map PyData.str) = true := canLay_strs ks fun y hy => strOk_low (kis y hy).low
            rw [SeqAt.shaped, PyData.canLay0, so, PyData.depth, depth_strs]
            rfl
          have eqk : PyData.eqv (.list (ks.map PyData.str)) (.list (ks.map PyData.str)) = true := by
            rw [PyData.eqv]
            exact eqva_strs ks
          refine ⟨3, rfl, by omega, by omega, ?_⟩
          refine loopR (n := (3 : Int).toNat) (fun i σ' H' => Kb b HG H' ∧ ∃ o6 o7 o8 o9 oA, σ' = [some (V.ref p), some (.ref b), some (.ref q), some (.ref q3), some (.ref q4), some (.ref r4), o6, o7, o8, o9, oA, none, none, none]) ⟨.refl kbG, none, o7, none, none, none, rfl⟩ ?_ ?_
          · rintro σ' HH ⟨kH, o6, o7, o8, o9, oA, rfl⟩
            have hkH := kH.at hkG fun _ z => by cases z
            have hqH := kH.at hqG fun _ z => by cases z
            have hBH := kH.at hBG fun _ z => by cases z
            have kbH := kH.b1
            clear hkG hqG hBG kbG kH
            walk_at "uz"
            refine s_listL (.of hkH) fun l nl => ?_
            have e1 := exN (o := .lst (ks.map V.str)) nl
            have fl : upd HH l (.lst (ks.map V.str)) l = some (.lst (ks.map V.str)) := upd_same
            generalize upd HH l (.lst (ks.map V.str)) = HI at e1 fl
            have a1 : atI (xs.map V.str) 1 = some (.str t1) := atI_nat (j := 1) (by rw [List.getElem?_map, xs1]; rfl)
            walk_at "uz"
            refine s_ixL (.of (e1 _ _ hBH)) a1 ?_
            walk_at "uz"
            refine ⟨t1, l, ks, rfl, by omega, .inl (.of fl), knd, by omega, fun v HJ e2 hv => ?_⟩
            walk_at "uz"
            refine s_ixL (.of ((e1.tr e2) _ _ hBH)) a1 ?_
            walk_at "uz"
            refine ⟨t1, q3, ks, rfl, by omega, .of ((e1.tr e2) _ _ hkH), knd, by omega, k32, fun w HK e3 hw => ?_⟩
            walk_at "uz"
            refine ⟨v, w, _, rfl, optI_ex hv e3, hw, ?_⟩
            walk_at "uz"
            have eK := e1.tr (e2.tr e3)
            refine ne_data (lstS_dp (.of ((e2.tr e3) _ _ fl))) (lstS_dp (.of (eK _ _ hkH))) shk shk ?_
            rw [eqk]
            have kbK := (eK.kb kbH).b1
            have hqK := eK _ _ hqH
            clear fl e1 hv hw e2 e3 eK hqH hkH hBH
            walk_at "uz"
            refine ⟨b, 4, rfl, kbK, by decide, by decide, fun m HL m0 m1 kL => ?_⟩
            walk_at "uz"
            refine ⟨b, _, rfl, kL.b1, by omega, by omega, fun va as HM al ar kM hva => ?_⟩
            walk_at "uz"
            refine ⟨b, _, rfl, kM.b1, by omega, by omega, fun vb bs HN bl br kN hvb => ?_⟩
            obtain ⟨qa, rfl, hva⟩ := hva
            have hqN := (kL.tr (kM.tr kN)).at hqK fun _ z => by cases z
            walk_at "uz"
            refine ⟨.ref qa, vb, as, bs, rfl, ⟨qa, rfl, kN.t hva⟩, hvb, by omega, by omega, fun HO eO => ?_⟩
            walk_at "uz"
            refine ⟨b, .ref qa, as, rfl, (eO.kb kN.b1).b1, ⟨qa, rfl, Ex.st (kN.t hva) eO⟩, by omega, by omega, ar, fun HP kP => ?_⟩
            walk_at "uz"
            refine ⟨q, zs, rfl, .of (kP.at (eO _ _ hqN) fun _ z => by cases z), N, z2, z7, fun HR eR => ?_⟩
            walk_at "uz"
            exact k _
          · rintro i σ' HH hi ⟨kH, o6, o7, o8, o9, oA, rfl⟩
            have hkH := kH.at hkG fun _ z => by cases z
            walk_at "uz"
            refine ⟨b, _, rfl, kH.b1, by rw [List.length_map]; omega, by rw [List.length_map]; omega, fun v ps HI pl pr kI hv => ?_⟩
            obtain ⟨q8, rfl, hv⟩ := hv
            have pl' : ks.length = ps.length := by rw [List.length_map] at pl; omega
            have hkI := kI.at hkH fun _ z => by cases z
            have kHI := kH.tr kI
            obtain ⟨rw1, rw2⟩ := read_write knd pl' (by omega) klow pr
            walk_at "uz"
            refine s_listL (.of hkI) fun l nl => ?_
            have e1 := exN (o := .lst (ks.map V.str)) nl
            have fl : upd HI l (.lst (ks.map V.str)) l = some (.lst (ks.map V.str)) := upd_same
            generalize upd HI l (.lst (ks.map V.str)) = HJ at e1 fl
            walk_at "uz"
            refine ⟨l, q8, ks, ps, rfl, .inl (.of fl), Ex.st hv e1, pl', by omega, fun n hn => (kis n hn).l2, pr, fun HK e2 => ?_⟩
            have e3 := e1.tr e2
            walk_at "uz"
            refine s_isStr (.str _) ?_
            walk_at "uz"
            refine ⟨q3, q8, ks, ps, rfl, .of (e3 _ _ hkI), Ex.st hv e3, pl', by omega, fun n hn => ⟨(kis n hn).l2, strOk_low (kis n hn).low⟩, pr, fun HL e4 => ?_⟩
            have e5 := e3.tr e4
            refine s_neS ?_
            rw [decide_eq_true rfl]
            walk_at "uz"
            refine ne_data (lstS_dp (.of ((e2.tr e4) _ _ fl))) (lstS_dp (.of (e5 _ _ hkI))) shk shk ?_
            rw [eqk]
            walk_at "uz"
            refine s_tupOfL (.of (e5 _ _ hkI)) fun t1 HM e6 ht1 => ?_
            have e7 := e5.tr e6
            walk_at "uz"
            refine ⟨t1, q8, ks, ps, rfl, .inr ht1, Ex.st hv e7, pl', by omega, fun n hn => (kis n hn).l2, pr, fun HN e8 => ?_⟩
            have e9 := e7.tr e8
            walk_at "uz0"
            refine s_neS ?_
            rw [decide_eq_true rfl]
            walk_at "uz"
            refine s_tupOfL (.of ((e2.tr (e4.tr (e6.tr e8))) _ _ fl)) fun t2 HO e10 ht2 => ?_
            have e11 := e9.tr e10
            walk_at "uz"
            refine ⟨_, t2, ks, rfl, by omega, .inr ht2, knd, by omega, fun w HP e12 hw => ?_⟩
            walk_at "uz"
            refine ⟨w, .ref q8, some ps, rfl, by rw [← rw1]; exact hw, .inr ⟨ps, rfl, q8, rfl, Ex.st hv (e11.tr e12)⟩, ?_⟩
            walk_at "uz"
            exact ⟨kHI.tr ((e11.tr e12).kb kHI.b1), _, _, _, _, _, rfl⟩
        · rintro i x σ' HG hx ⟨eG, eg, o7, rfl⟩
          obtain ⟨z, hz, rfl⟩ := str_get hx
          have z5 := l5 z (List.mem_of_getElem? hz)
          walk_at "uz"
          refine s_lstE ?_
          walk_at "uz"
          refine s_szN (Nat.le_of_ble_eq_true rfl) fun r8 n8 => ?_
          walk_at "uz"
          refine ⟨z, r8, ["a", "b"], rfl, by omega, .of upd_same, by decide, by decide, by decide +kernel, fun HH' eh => ?_⟩
          have e1 := (exN (o := .lst [.str "a", .str "b"]) n8).tr eh
          walk_at "uz"
          refine s_tupE ?_
          walk_at "uz"
          refine s_szN (Nat.le_of_ble_eq_true rfl) fun r9 n9 => ?_
          walk_at "uz"
          refine ⟨z, r9, ["b", "a", "c"], rfl, by omega, .inr (.of upd_same), by decide, by decide, fun v HI ei hv => ?_⟩
          have e2 := e1.tr ((exN (o := .tup [.str "b", .str "a", .str "c"]) n9).tr ei)
          walk_at "uz"
          refine s_lstE ?_
          walk_at "uz"
          refine s_szN (Nat.le_of_ble_eq_true rfl) fun rA nA => ?_
          walk_at "uz"
          refine ⟨z, rA, ["b", "a", "c"], rfl, by omega, .of upd_same, by decide, by decide, by decide +kernel, fun w HJ ej hw => ?_⟩
          have e3 := (exN (o := .lst [.str "b", .str "a", .str "c"]) nA).tr ej
          walk_at "uz"
          refine ⟨v, w, _, rfl, ?_, hw, ?_⟩
          · exact optI_ex hv e3
          walk_at "uz"
          exact ⟨eG.tr (e2.tr e3), eg.tr (e2.tr e3), _, rfl⟩
      · rintro i x σ' HE hx ⟨eE, ed, o7, rfl⟩
        obtain ⟨z, hz, rfl⟩ := str_get hx
        have z5 := all5 z (List.mem_of_getElem? hz)
        walk_at "uz"
        refine ⟨z, q3, ks, rfl, by omega, .of (eE _ _ hkB), knd, by omega, k32, fun H' e' => ?_⟩
        walk_at "uz"
        exact ⟨eE.tr e', ed.tr e', _, rfl⟩
    · rintro D i acc H6 nD hi ⟨k6, ys, hD, y5, yl⟩
      refine ⟨rfl, s_yes (s_iT ?_)⟩
      walk_at "uz"
      refine ⟨b, q4, ds, rfl, k6.b1, .of (k6.at hd fun _ z => by cases z), d1, d100, d12, fun z H7 hz k7 => ?_⟩
      refine ⟨_, k7.at hD (fun _ z => by cases z), by rw [List.length_map, yl]; show _ < 16777216; omega, [], (k6.tr k7).put nD _, ys ++ [z], by rw [List.map_append]; exact upd_same, fun u hu => ?_, by rw [List.length_append, yl]; rfl⟩
      rcases List.mem_append.mp hu with hu | hu
      · exact y5 u hu
      · rw [List.mem_singleton.mp hu]; exact hz
  · walk_at "uz"
    refine ⟨b, 6, rfl, kb4, by decide, by decide, fun x H5 k5 => ?_⟩
    have hq5 := k5.at hq4 fun _ z => by cases z
    have hk5 := k5.at hk fun _ z => by cases z
    refine s_if1 (x := x) (fun hx => ?_) (fun hx => ?_)
    · rw [hx]
      walk_at "uz"
      refine s_slL (.of hq5) fun q6 H6 e6 h6 => ?_
      obtain ⟨ys, ey, yl, ym⟩ := cut_last zs (some (((zs.map V.str).length : Int) - 1))
      rw [ey] at h6
      refine s_addL (e6 _ _ hk5) h6 (by rw [List.length_map, List.length_map]; show _ ≤ 16777216; omega) fun q7 n7 => ?_
      rw [← List.map_append]
      refine hP _ _ ⟨q7, ks ++ ys, rfl, k5.tr ((e6.tr (exN n7)).kb k5.b1), upd_same, by rw [List.length_append]; omega, by rw [List.length_append]; omega, fun z hz => ?_⟩
      rcases List.mem_append.mp hz with hz | hz
      · exact (kis z hz).l2
      · exact (N.each z (ym z hz)).l2
    · rw [hx]
      walk_at "uz"
      exact hP _ _ ⟨q3, ks, rfl, k5, hk5, by omega, by omega, fun z hz => (kis z hz).l2⟩
end
end Lw

set_option Elab.async false
set_option linter.all false
set_option maxRecDepth 100000
set_option maxHeartbeats 4000000
namespace Hd
open PySem PySem.Spec PyProof.Rows L2 He
def nm0 : List PySem.Str := ["EllError", "TooHigh", "Unknown", "is_integer", "HIGH", "SIGNS", "POWERS", "is_dimension", "multiplied", "divided", "base_dimension", "terms_of", "power_of", "read_product", "write_product", "WORDS", "LETTERS", "is_name", "_law_bag_of", "_law_pick", "_law_choice", "_law_one_in", "_law_integer", "_law_letters_of", "_law_words", "_law_names_of", "_law_own_names", "_law_exponent", "_law_product", "_law_figure_of"]
def nm1 : List PySem.Str := ["_law_powers_of", "_law_written", "_law_same", "_law_right_reading", "_law_spoilt", "_law_odd_texts", "_law_long_texts", "_law_multiplied_told", "_law_base_told", "_law_dimension", "_law_right_products", "_law_right_kinds", "_law_right_bases", "_law_right_names"]
def names : List PySem.Str := nm0 ++ nm1
abbrev L : PySem.W.OpenLaw := PySem.Challenge.rw_ellwarden_k02_product_texts
abbrev R : PySem.W.OpenRow := PySem.W.OpenLaw.row L
def fb : List (PySem.W.Frag → Bool) := [Hk.fa (.free "isinstance"),
  Hk.fa (.free "len"),
  Hk.fa (.free "abs"),
  Hk.fa (.free "repr"),
  Hk.fa (.free "max"),
  Hk.fa (.free "min"),
  Hk.fa (.free "sum"),
  Hk.fa (.free "all"),
  Hk.fa (.free "any"),
  Hk.fa (.free "sorted"),
  Hk.fa (.free "int"),
  Hk.fa (.free "str"),
  Hk.fa (.free "list"),
  Hk.fa (.free "tuple"),
  Hk.fa (.free "bool"),
  Hk.fa (.free "dict"),
  Hk.fa (.free "range"),
  Hk.fa (.free "enumerate"),
  Hk.fa (.free "zip"),
  Hk.fa (.free "iter"),
  Hk.fa (.free "reversed"),
  Hk.fa (.free "super"),
  Hk.fa (.free "ValueError"),
  Hk.xB1 "TooHigh" ["dimension"],
  Hk.xB2 (PySem.Challenge.pw_ellwarden_k02_product_texts.main.file) "TooHigh",
  Hk.excB "TooHigh",
  Hk.xB1 "Unknown" ["name"],
  Hk.xB2 (PySem.Challenge.pw_ellwarden_k02_product_texts.main.file) "Unknown",
  Hk.excB "Unknown",
  Hk.fa (.int "HIGH" 9),
  Hk.fa (.int "SIGNS" 200),
  Hk.fa (.str "POWERS" "123456789"),
  Hk.fa (.str "LETTERS" "abcdefghijklmnopqrstuvwxyz"),
  Hk.fa (.glo "EllError"),
  Hk.fa (.glo "WORDS"),
  Hk.tupB "WORDS" (Lw.wordsV.map V.str),
  Hk.fa (.exm "TooHigh" "TooHigh" true),
  Hk.fa (.exm "Unknown" "Unknown" true),
  Hk.kitB' "TooHigh" (fun _ => .type "ValueError") true,
  Hk.kitB' "Unknown" (fun _ => .type "ValueError") true,
  Hk.kitB' "TooHigh" (fun K => .ref (ga K "EllError")) true,
  Hk.kitB' "Unknown" (fun K => .ref (ga K "EllError")) true,
  Hk.kitB' "TooHigh" (fun K => .ref (ga K "Unknown")) false,
  Hk.kitB' "Unknown" (fun K => .ref (ga K "TooHigh")) false,
  Hk.fa (.noat "TooHigh" "dimension"),
  Hk.fa (.noat "Unknown" "name"),
  Hk.fa (.glo "is_integer"),
  Hk.fa (.glo "is_dimension"),
  Hk.fa (.glo "multiplied"),
  Hk.fa (.glo "divided"),
  Hk.fa (.glo "base_dimension"),
  Hk.fa (.glo "terms_of"),
  Hk.fa (.glo "power_of"),
  Hk.fa (.glo "read_product"),
  Hk.fa (.glo "write_product"),
  Hk.fa (.glo "is_name"),
  Hk.fa (.glo "_law_bag_of"),
  Hk.fa (.glo "_law_pick"),
  Hk.fa (.glo "_law_choice"),
  Hk.fa (.glo "_law_one_in"),
  Hk.fa (.glo "_law_integer"),
  Hk.fa (.glo "_law_letters_of"),
  Hk.fa (.glo "_law_words"),
  Hk.fa (.glo "_law_names_of"),
  Hk.fa (.glo "_law_own_names"),
  Hk.fa (.glo "_law_exponent"),
  Hk.fa (.glo "_law_product"),
  Hk.fa (.glo "_law_figure_of"),
  Hk.fa (.glo "_law_powers_of"),
  Hk.fa (.glo "_law_written"),
  Hk.fa (.glo "_law_same"),
  Hk.fa (.glo "_law_right_reading"),
  Hk.fa (.glo "_law_spoilt"),
  Hk.fa (.glo "_law_odd_texts"),
  Hk.fa (.glo "_law_long_texts"),
  Hk.fa (.glo "_law_multiplied_told"),
  Hk.fa (.glo "_law_base_told"),
  Hk.fa (.glo "_law_dimension"),
  Hk.fa (.glo "_law_right_products"),
  Hk.fa (.glo "_law_right_kinds"),
  Hk.fa (.glo "_law_right_bases"),
  Hk.fa (.glo "_law_right_names"),
  Hk.fa (.glo "law")]
def fn : List He5.DefA := [⟨fun K => ga K "is_integer", "is_integer", "is_integer", defArgs Lw.s_is_integer, defBody Lw.s_is_integer, defScope Lw.s_is_integer, [.non, .non], []⟩,
  ⟨fun K => ga K "is_dimension", "is_dimension", "is_dimension", defArgs Lw.s_is_dimension, defBody Lw.s_is_dimension, defScope Lw.s_is_dimension, [], []⟩,
  ⟨fun K => ga K "multiplied", "multiplied", "multiplied", defArgs Lw.s_multiplied, defBody Lw.s_multiplied, defScope Lw.s_multiplied, [], []⟩,
  ⟨fun K => ga K "divided", "divided", "divided", defArgs Lw.s_divided, defBody Lw.s_divided, defScope Lw.s_divided, [], []⟩,
  ⟨fun K => ga K "base_dimension", "base_dimension", "base_dimension", defArgs Lw.s_base_dimension, defBody Lw.s_base_dimension, defScope Lw.s_base_dimension, [], []⟩,
  ⟨fun K => ga K "terms_of", "terms_of", "terms_of", defArgs Lw.s_terms_of, defBody Lw.s_terms_of, defScope Lw.s_terms_of, [], []⟩,
  ⟨fun K => ga K "power_of", "power_of", "power_of", defArgs Lw.s_power_of, defBody Lw.s_power_of, defScope Lw.s_power_of, [], []⟩,
  ⟨fun K => ga K "read_product", "read_product", "read_product", defArgs Lw.s_read_product, defBody Lw.s_read_product, defScope Lw.s_read_product, [], []⟩,
  ⟨fun K => ga K "write_product", "write_product", "write_product", defArgs Lw.s_write_product, defBody Lw.s_write_product, defScope Lw.s_write_product, [], []⟩,
  ⟨fun K => ga K "is_name", "is_name", "is_name", defArgs Lw.s_is_name, defBody Lw.s_is_name, defScope Lw.s_is_name, [], []⟩,
  ⟨fun K => ga K "_law_bag_of", "_law_bag_of", "_law_bag_of", defArgs Lw.s_l_bag_of, defBody Lw.s_l_bag_of, defScope Lw.s_l_bag_of, [], []⟩,
  ⟨fun K => ga K "_law_pick", "_law_pick", "_law_pick", defArgs Lw.s_l_pick, defBody Lw.s_l_pick, defScope Lw.s_l_pick, [], []⟩,
  ⟨fun K => ga K "_law_choice", "_law_choice", "_law_choice", defArgs Lw.s_l_choice, defBody Lw.s_l_choice, defScope Lw.s_l_choice, [], []⟩,
  ⟨fun K => ga K "_law_one_in", "_law_one_in", "_law_one_in", defArgs Lw.s_l_one_in, defBody Lw.s_l_one_in, defScope Lw.s_l_one_in, [], []⟩,
  ⟨fun K => ga K "_law_integer", "_law_integer", "_law_integer", defArgs Lw.s_l_integer, defBody Lw.s_l_integer, defScope Lw.s_l_integer, [], []⟩,
  ⟨fun K => ga K "_law_letters_of", "_law_letters_of", "_law_letters_of", defArgs Lw.s_l_letters_of, defBody Lw.s_l_letters_of, defScope Lw.s_l_letters_of, [], []⟩,
  ⟨fun K => ga K "_law_words", "_law_words", "_law_words", defArgs Lw.s_l_words, defBody Lw.s_l_words, defScope Lw.s_l_words, [], []⟩,
  ⟨fun K => ga K "_law_names_of", "_law_names_of", "_law_names_of", defArgs Lw.s_l_names_of, defBody Lw.s_l_names_of, defScope Lw.s_l_names_of, [], []⟩,
  ⟨fun K => ga K "_law_own_names", "_law_own_names", "_law_own_names", defArgs Lw.s_l_own_names, defBody Lw.s_l_own_names, defScope Lw.s_l_own_names, [], []⟩,
  ⟨fun K => ga K "_law_exponent", "_law_exponent", "_law_exponent", defArgs Lw.s_l_exponent, defBody Lw.s_l_exponent, defScope Lw.s_l_exponent, [], []⟩,
  ⟨fun K => ga K "_law_product", "_law_product", "_law_product", defArgs Lw.s_l_product, defBody Lw.s_l_product, defScope Lw.s_l_product, [], []⟩,
  ⟨fun K => ga K "_law_figure_of", "_law_figure_of", "_law_figure_of", defArgs Lw.s_l_figure_of, defBody Lw.s_l_figure_of, defScope Lw.s_l_figure_of, [], []⟩,
  ⟨fun K => ga K "_law_powers_of", "_law_powers_of", "_law_powers_of", defArgs Lw.s_l_powers_of, defBody Lw.s_l_powers_of, defScope Lw.s_l_powers_of, [], []⟩,
  ⟨fun K => ga K "_law_written", "_law_written", "_law_written", defArgs Lw.s_l_written, defBody Lw.s_l_written, defScope Lw.s_l_written, [], []⟩,
  ⟨fun K => ga K "_law_same", "_law_same", "_law_same", defArgs Lw.s_l_same, defBody Lw.s_l_same, defScope Lw.s_l_same, [], []⟩,
  ⟨fun K => ga K "_law_right_reading", "_law_right_reading", "_law_right_reading", defArgs Lw.s_l_right_reading, defBody Lw.s_l_right_reading, defScope Lw.s_l_right_reading, [], []⟩,
  ⟨fun K => ga K "_law_spoilt", "_law_spoilt", "_law_spoilt", defArgs Lw.s_l_spoilt, defBody Lw.s_l_spoilt, defScope Lw.s_l_spoilt, [], []⟩,
  ⟨fun K => ga K "_law_odd_texts", "_law_odd_texts", "_law_odd_texts", defArgs Lw.s_l_odd_texts, defBody Lw.s_l_odd_texts, defScope Lw.s_l_odd_texts, [], []⟩,
  ⟨fun K => ga K "_law_long_texts", "_law_long_texts", "_law_long_texts", defArgs Lw.s_l_long_texts, defBody Lw.s_l_long_texts, defScope Lw.s_l_long_texts, [], []⟩,
  ⟨fun K => ga K "_law_multiplied_told", "_law_multiplied_told", "_law_multiplied_told", defArgs Lw.s_l_multiplied_told, defBody Lw.s_l_multiplied_told, defScope Lw.s_l_multiplied_told, [], []⟩,
  ⟨fun K => ga K "_law_base_told", "_law_base_told", "_law_base_told", defArgs Lw.s_l_base_told, defBody Lw.s_l_base_told, defScope Lw.s_l_base_told, [], []⟩,
  ⟨fun K => ga K "_law_dimension", "_law_dimension", "_law_dimension", defArgs Lw.s_l_dimension, defBody Lw.s_l_dimension, defScope Lw.s_l_dimension, [], []⟩,
  ⟨fun K => ga K "_law_right_products", "_law_right_products", "_law_right_products", defArgs Lw.s_l_right_products, defBody Lw.s_l_right_products, defScope Lw.s_l_right_products, [], []⟩,
  ⟨fun K => ga K "_law_right_kinds", "_law_right_kinds", "_law_right_kinds", defArgs Lw.s_l_right_kinds, defBody Lw.s_l_right_kinds, defScope Lw.s_l_right_kinds, [], []⟩,
  ⟨fun K => ga K "_law_right_bases", "_law_right_bases", "_law_right_bases", defArgs Lw.s_l_right_bases, defBody Lw.s_l_right_bases, defScope Lw.s_l_right_bases, [], []⟩,
  ⟨fun K => ga K "_law_right_names", "_law_right_names", "_law_right_names", defArgs Lw.s_l_right_names, defBody Lw.s_l_right_names, defScope Lw.s_l_right_names, [], []⟩,
  ⟨fun K => ga K "law", "law", "law", defArgs Lw.s_law, defBody Lw.s_law, defScope Lw.s_law, [], []⟩]
def xs : List Hk.XI := [⟨"TooHigh", defArgs Lw.s_TooHigh_init, defBody Lw.s_TooHigh_init, defScope Lw.s_TooHigh_init⟩,
  ⟨"Unknown", defArgs Lw.s_Unknown_init, defBody Lw.s_Unknown_init, defScope Lw.s_Unknown_init⟩]
abbrev V : Program := PySem.W.view R.prog [49]
abbrev hk : PySem.W.Hook := Hk.hookO 5 fb fn xs
theorem run (w : World) : HandSHeadRun.RunEq R V hk (fun s => Hk.obsOG 5 fb fn xs (HandSHeadRun.getT s)) 6000 names w := by
  intro os
  kernel_rfl
end Hd

set_option Elab.async false
set_option linter.all false
set_option maxRecDepth 100000
set_option maxHeartbeats 4000000
namespace Hd
open PySem PySem.Spec PyProof.Rows L2 He Uv
theorem x_TooHigh {K : PySem.W.Frag} {h : Heap} {mg : Str → Option Value} (X : K.In h) (G : h.Ns mainGlobals mg) (c : Hk.SaysO fb fn xs K) : Xc.Txt L.prog K mg "TooHigh" ["dimension"] (ga K "TooHigh") :=
  Hk.x_ok X G (c.fact 23 (f := Hk.xB1 "TooHigh" ["dimension"])) (c.fact 24 (f := Hk.xB2 (PySem.Challenge.pw_ellwarden_k02_product_texts.main.file) "TooHigh")) (d := ⟨"TooHigh", defArgs Lw.s_TooHigh_init, defBody Lw.s_TooHigh_init, defScope Lw.s_TooHigh_init⟩) (c.xi 0) rfl rfl rfl (.cons "dimension" _ _ _ _ .nil) rfl rfl (fun _ _ _ _ _ _ _ us hu => match us, hu with | [_, _], _ => rfl)
    ⟨rfl, rfl, rfl, by decide +kernel, rfl, by decide +kernel, rfl, rfl⟩ rfl (by decide +kernel) (by decide +kernel)
theorem x_Unknown {K : PySem.W.Frag} {h : Heap} {mg : Str → Option Value} (X : K.In h) (G : h.Ns mainGlobals mg) (c : Hk.SaysO fb fn xs K) : Xc.Txt L.prog K mg "Unknown" ["name"] (ga K "Unknown") :=
  Hk.x_ok X G (c.fact 26 (f := Hk.xB1 "Unknown" ["name"])) (c.fact 27 (f := Hk.xB2 (PySem.Challenge.pw_ellwarden_k02_product_texts.main.file) "Unknown")) (d := ⟨"Unknown", defArgs Lw.s_Unknown_init, defBody Lw.s_Unknown_init, defScope Lw.s_Unknown_init⟩) (c.xi 1) rfl rfl rfl (.cons "name" _ _ _ _ .nil) rfl rfl (fun _ _ _ _ _ _ _ us hu => match us, hu with | [_, _], _ => rfl)
    ⟨rfl, rfl, rfl, by decide +kernel, rfl, by decide +kernel, rfl, rfl⟩ rfl (by decide +kernel) (by decide +kernel)
theorem tp {K : PySem.W.Frag} {h : Heap} {mg : Str → Option Value} (X : K.In h) (G : h.Ns mainGlobals mg) (c : Hk.SaysO fb fn xs K) : Lw.Tp L.prog K mg (ga K "EllError") (ga K "TooHigh") (ga K "Unknown") (ga K "WORDS") :=
  { isinstance := free_ok X G (c.fact 0 (f := Hk.fa (.free "isinstance"))), len := free_ok X G (c.fact 1 (f := Hk.fa (.free "len"))), abs := free_ok X G (c.fact 2 (f := Hk.fa (.free "abs"))), repr := free_ok X G (c.fact 3 (f := Hk.fa (.free "repr"))), max := free_ok X G (c.fact 4 (f := Hk.fa (.free "max"))), min := free_ok X G (c.fact 5 (f := Hk.fa (.free "min"))), sum := free_ok X G (c.fact 6 (f := Hk.fa (.free "sum"))), all := free_ok X G (c.fact 7 (f := Hk.fa (.free "all"))), any := free_ok X G (c.fact 8 (f := Hk.fa (.free "any"))), sorted := free_ok X G (c.fact 9 (f := Hk.fa (.free "sorted"))), int := free_ok X G (c.fact 10 (f := Hk.fa (.free "int"))), str := free_ok X G (c.fact 11 (f := Hk.fa (.free "str"))), list := free_ok X G (c.fact 12 (f := Hk.fa (.free "list"))), tuple := free_ok X G (c.fact 13 (f := Hk.fa (.free "tuple"))), bool := free_ok X G (c.fact 14 (f := Hk.fa (.free "bool"))), dict := free_ok X G (c.fact 15 (f := Hk.fa (.free "dict"))), range := free_ok X G (c.fact 16 (f := Hk.fa (.free "range"))), enumerate := free_ok X G (c.fact 17 (f := Hk.fa (.free "enumerate"))), zip := free_ok X G (c.fact 18 (f := Hk.fa (.free "zip"))), iter := free_ok X G (c.fact 19 (f := Hk.fa (.free "iter"))), reversed := free_ok X G (c.fact 20 (f := Hk.fa (.free "reversed"))), super := free_ok X G (c.fact 21 (f := Hk.fa (.free "super"))), ValueError := free_ok X G (c.fact 22 (f := Hk.fa (.free "ValueError"))), x_TooHigh := x_TooHigh X G c, x_Unknown := x_Unknown X G c, g_TooHigh := (x_TooHigh X G c).gC, g_Unknown := (x_Unknown X G c).gC, g_EllError := glo_ok X G (c.fact 33 (f := Hk.fa (.glo "EllError"))), g_HIGH := int_ok X G (c.fact 29 (f := Hk.fa (.int "HIGH" 9))), g_SIGNS := int_ok X G (c.fact 30 (f := Hk.fa (.int "SIGNS" 200))), g_POWERS := str_ok X G (c.fact 31 (f := Hk.fa (.str "POWERS" "123456789"))), g_LETTERS := str_ok X G (c.fact 32 (f := Hk.fa (.str "LETTERS" "abcdefghijklmnopqrstuvwxyz"))), g_WORDS := glo_ok X G (c.fact 34 (f := Hk.fa (.glo "WORDS"))), tW := Hk.tupB_ok (c.fact 35 (f := Hk.tupB "WORDS" (Lw.wordsV.map V.str))), mHH := exm_ok (c.fact 36 (f := Hk.fa (.exm "TooHigh" "TooHigh" true))), mUU := exm_ok (c.fact 37 (f := Hk.fa (.exm "Unknown" "Unknown" true))), oHV := of_decide_eq_true (c.fact 38 (f := Hk.kitB' "TooHigh" (fun _ => .type "ValueError") true)), oUV := of_decide_eq_true (c.fact 39 (f := Hk.kitB' "Unknown" (fun _ => .type "ValueError") true)), oHE := of_decide_eq_true (c.fact 40 (f := Hk.kitB' "TooHigh" (fun K => .ref (ga K "EllError")) true)), oUE := of_decide_eq_true (c.fact 41 (f := Hk.kitB' "Unknown" (fun K => .ref (ga K "EllError")) true)), oHU := of_decide_eq_true (c.fact 42 (f := Hk.kitB' "TooHigh" (fun K => .ref (ga K "Unknown")) false)), oUH := of_decide_eq_true (c.fact 43 (f := Hk.kitB' "Unknown" (fun K => .ref (ga K "TooHigh")) false)), eH := Hk.excB_ok (c.fact 25 (f := Hk.excB "TooHigh")), eU := Hk.excB_ok (c.fact 28 (f := Hk.excB "Unknown")), xf_TooHigh := have z := Hk.excB_ok (c.fact 25 (f := Hk.excB "TooHigh")); ⟨z.hg, z.hk, z.hs, z.hd⟩, xf_Unknown := have z := Hk.excB_ok (c.fact 28 (f := Hk.excB "Unknown")); ⟨z.hg, z.hk, z.hs, z.hd⟩, xn_TooHigh_dimension := noat_ok (c.fact 44 (f := Hk.fa (.noat "TooHigh" "dimension"))), xn_Unknown_name := noat_ok (c.fact 45 (f := Hk.fa (.noat "Unknown" "name"))) }
theorem chain {w : World} {K : PySem.W.Frag} {h : Heap} {mg : Str → Option Value} {f : Addr} (X : K.In h) (G : h.Ns mainGlobals mg) (hfa : mg ("law" : Str) = some (.ref f)) (c : Hk.SaysO fb fn xs K) :
    ∃ fd : FuncData, (∀ (s : Shared) (v : Value), BindsTo s fd ⟨[v], []⟩ [("_law_script", v)]) ∧ ∀ base : Heap, FnG L.prog w K mg base 6 f fd ["_law_script"] (Lw.spLaw K) := by
  have T := tp X G c
  obtain ⟨fd_l_pick, F_l_pick⟩ := c.def_ 11 (d := ⟨fun K => ga K "_law_pick", "_law_pick", "_law_pick", defArgs Lw.s_l_pick, defBody Lw.s_l_pick, defScope Lw.s_l_pick, [], []⟩)
  obtain ⟨fd_l_one_in, F_l_one_in⟩ := c.def_ 13 (d := ⟨fun K => ga K "_law_one_in", "_law_one_in", "_law_one_in", defArgs Lw.s_l_one_in, defBody Lw.s_l_one_in, defScope Lw.s_l_one_in, [], []⟩)
  obtain ⟨fd_l_choice, F_l_choice⟩ := c.def_ 12 (d := ⟨fun K => ga K "_law_choice", "_law_choice", "_law_choice", defArgs Lw.s_l_choice, defBody Lw.s_l_choice, defScope Lw.s_l_choice, [], []⟩)
  obtain ⟨fd_l_bag_of, F_l_bag_of⟩ := c.def_ 10 (d := ⟨fun K => ga K "_law_bag_of", "_law_bag_of", "_law_bag_of", defArgs Lw.s_l_bag_of, defBody Lw.s_l_bag_of, defScope Lw.s_l_bag_of, [], []⟩)
  obtain ⟨fd_l_integer, F_l_integer⟩ := c.def_ 14 (d := ⟨fun K => ga K "_law_integer", "_law_integer", "_law_integer", defArgs Lw.s_l_integer, defBody Lw.s_l_integer, defScope Lw.s_l_integer, [], []⟩)
  obtain ⟨fd_is_integer, F_is_integer⟩ := c.def_ 0 (d := ⟨fun K => ga K "is_integer", "is_integer", "is_integer", defArgs Lw.s_is_integer, defBody Lw.s_is_integer, defScope Lw.s_is_integer, [.non, .non], []⟩)
  obtain ⟨fd_l_letters_of, F_l_letters_of⟩ := c.def_ 15 (d := ⟨fun K => ga K "_law_letters_of", "_law_letters_of", "_law_letters_of", defArgs Lw.s_l_letters_of, defBody Lw.s_l_letters_of, defScope Lw.s_l_letters_of, [], []⟩)
  obtain ⟨fd_l_words, F_l_words⟩ := c.def_ 16 (d := ⟨fun K => ga K "_law_words", "_law_words", "_law_words", defArgs Lw.s_l_words, defBody Lw.s_l_words, defScope Lw.s_l_words, [], []⟩)
  obtain ⟨fd_l_names_of, F_l_names_of⟩ := c.def_ 17 (d := ⟨fun K => ga K "_law_names_of", "_law_names_of", "_law_names_of", defArgs Lw.s_l_names_of, defBody Lw.s_l_names_of, defScope Lw.s_l_names_of, [], []⟩)
  obtain ⟨fd_is_dimension, F_is_dimension⟩ := c.def_ 1 (d := ⟨fun K => ga K "is_dimension", "is_dimension", "is_dimension", defArgs Lw.s_is_dimension, defBody Lw.s_is_dimension, defScope Lw.s_is_dimension, [], []⟩)
  obtain ⟨fd_multiplied, F_multiplied⟩ := c.def_ 2 (d := ⟨fun K => ga K "multiplied", "multiplied", "multiplied", defArgs Lw.s_multiplied, defBody Lw.s_multiplied, defScope Lw.s_multiplied, [], []⟩)
  obtain ⟨fd_divided, F_divided⟩ := c.def_ 3 (d := ⟨fun K => ga K "divided", "divided", "divided", defArgs Lw.s_divided, defBody Lw.s_divided, defScope Lw.s_divided, [], []⟩)
  obtain ⟨fd_base_dimension, F_base_dimension⟩ := c.def_ 4 (d := ⟨fun K => ga K "base_dimension", "base_dimension", "base_dimension", defArgs Lw.s_base_dimension, defBody Lw.s_base_dimension, defScope Lw.s_base_dimension, [], []⟩)
  obtain ⟨fd_terms_of, F_terms_of⟩ := c.def_ 5 (d := ⟨fun K => ga K "terms_of", "terms_of", "terms_of", defArgs Lw.s_terms_of, defBody Lw.s_terms_of, defScope Lw.s_terms_of, [], []⟩)
  obtain ⟨fd_power_of, F_power_of⟩ := c.def_ 6 (d := ⟨fun K => ga K "power_of", "power_of", "power_of", defArgs Lw.s_power_of, defBody Lw.s_power_of, defScope Lw.s_power_of, [], []⟩)
  obtain ⟨fd_read_product, F_read_product⟩ := c.def_ 7 (d := ⟨fun K => ga K "read_product", "read_product", "read_product", defArgs Lw.s_read_product, defBody Lw.s_read_product, defScope Lw.s_read_product, [], []⟩)
  obtain ⟨fd_write_product, F_write_product⟩ := c.def_ 8 (d := ⟨fun K => ga K "write_product", "write_product", "write_product", defArgs Lw.s_write_product, defBody Lw.s_write_product, defScope Lw.s_write_product, [], []⟩)
  obtain ⟨fd_is_name, F_is_name⟩ := c.def_ 9 (d := ⟨fun K => ga K "is_name", "is_name", "is_name", defArgs Lw.s_is_name, defBody Lw.s_is_name, defScope Lw.s_is_name, [], []⟩)
  obtain ⟨fd_l_own_names, F_l_own_names⟩ := c.def_ 18 (d := ⟨fun K => ga K "_law_own_names", "_law_own_names", "_law_own_names", defArgs Lw.s_l_own_names, defBody Lw.s_l_own_names, defScope Lw.s_l_own_names, [], []⟩)
  obtain ⟨fd_l_exponent, F_l_exponent⟩ := c.def_ 19 (d := ⟨fun K => ga K "_law_exponent", "_law_exponent", "_law_exponent", defArgs Lw.s_l_exponent, defBody Lw.s_l_exponent, defScope Lw.s_l_exponent, [], []⟩)
  obtain ⟨fd_l_product, F_l_product⟩ := c.def_ 20 (d := ⟨fun K => ga K "_law_product", "_law_product", "_law_product", defArgs Lw.s_l_product, defBody Lw.s_l_product, defScope Lw.s_l_product, [], []⟩)
  obtain ⟨fd_l_figure_of, F_l_figure_of⟩ := c.def_ 21 (d := ⟨fun K => ga K "_law_figure_of", "_law_figure_of", "_law_figure_of", defArgs Lw.s_l_figure_of, defBody Lw.s_l_figure_of, defScope Lw.s_l_figure_of, [], []⟩)
  obtain ⟨fd_l_powers_of, F_l_powers_of⟩ := c.def_ 22 (d := ⟨fun K => ga K "_law_powers_of", "_law_powers_of", "_law_powers_of", defArgs Lw.s_l_powers_of, defBody Lw.s_l_powers_of, defScope Lw.s_l_powers_of, [], []⟩)
  obtain ⟨fd_l_written, F_l_written⟩ := c.def_ 23 (d := ⟨fun K => ga K "_law_written", "_law_written", "_law_written", defArgs Lw.s_l_written, defBody Lw.s_l_written, defScope Lw.s_l_written, [], []⟩)
  obtain ⟨fd_l_same, F_l_same⟩ := c.def_ 24 (d := ⟨fun K => ga K "_law_same", "_law_same", "_law_same", defArgs Lw.s_l_same, defBody Lw.s_l_same, defScope Lw.s_l_same, [], []⟩)
  obtain ⟨fd_l_right_reading, F_l_right_reading⟩ := c.def_ 25 (d := ⟨fun K => ga K "_law_right_reading", "_law_right_reading", "_law_right_reading", defArgs Lw.s_l_right_reading, defBody Lw.s_l_right_reading, defScope Lw.s_l_right_reading, [], []⟩)
  obtain ⟨fd_l_spoilt, F_l_spoilt⟩ := c.def_ 26 (d := ⟨fun K => ga K "_law_spoilt", "_law_spoilt", "_law_spoilt", defArgs Lw.s_l_spoilt, defBody Lw.s_l_spoilt, defScope Lw.s_l_spoilt, [], []⟩)
  obtain ⟨fd_l_odd_texts, F_l_odd_texts⟩ := c.def_ 27 (d := ⟨fun K => ga K "_law_odd_texts", "_law_odd_texts", "_law_odd_texts", defArgs Lw.s_l_odd_texts, defBody Lw.s_l_odd_texts, defScope Lw.s_l_odd_texts, [], []⟩)
  obtain ⟨fd_l_long_texts, F_l_long_texts⟩ := c.def_ 28 (d := ⟨fun K => ga K "_law_long_texts", "_law_long_texts", "_law_long_texts", defArgs Lw.s_l_long_texts, defBody Lw.s_l_long_texts, defScope Lw.s_l_long_texts, [], []⟩)
  obtain ⟨fd_l_multiplied_told, F_l_multiplied_told⟩ := c.def_ 29 (d := ⟨fun K => ga K "_law_multiplied_told", "_law_multiplied_told", "_law_multiplied_told", defArgs Lw.s_l_multiplied_told, defBody Lw.s_l_multiplied_told, defScope Lw.s_l_multiplied_told, [], []⟩)
  obtain ⟨fd_l_base_told, F_l_base_told⟩ := c.def_ 30 (d := ⟨fun K => ga K "_law_base_told", "_law_base_told", "_law_base_told", defArgs Lw.s_l_base_told, defBody Lw.s_l_base_told, defScope Lw.s_l_base_told, [], []⟩)
  obtain ⟨fd_l_dimension, F_l_dimension⟩ := c.def_ 31 (d := ⟨fun K => ga K "_law_dimension", "_law_dimension", "_law_dimension", defArgs Lw.s_l_dimension, defBody Lw.s_l_dimension, defScope Lw.s_l_dimension, [], []⟩)
  obtain ⟨fd_l_right_products, F_l_right_products⟩ := c.def_ 32 (d := ⟨fun K => ga K "_law_right_products", "_law_right_products", "_law_right_products", defArgs Lw.s_l_right_products, defBody Lw.s_l_right_products, defScope Lw.s_l_right_products, [], []⟩)
  obtain ⟨fd_l_right_kinds, F_l_right_kinds⟩ := c.def_ 33 (d := ⟨fun K => ga K "_law_right_kinds", "_law_right_kinds", "_law_right_kinds", defArgs Lw.s_l_right_kinds, defBody Lw.s_l_right_kinds, defScope Lw.s_l_right_kinds, [], []⟩)
  obtain ⟨fd_l_right_bases, F_l_right_bases⟩ := c.def_ 34 (d := ⟨fun K => ga K "_law_right_bases", "_law_right_bases", "_law_right_bases", defArgs Lw.s_l_right_bases, defBody Lw.s_l_right_bases, defScope Lw.s_l_right_bases, [], []⟩)
  obtain ⟨fd_l_right_names, F_l_right_names⟩ := c.def_ 35 (d := ⟨fun K => ga K "_law_right_names", "_law_right_names", "_law_right_names", defArgs Lw.s_l_right_names, defBody Lw.s_l_right_names, defScope Lw.s_l_right_names, [], []⟩)
  obtain ⟨fd_law, F_law⟩ := c.def_ 36 (d := ⟨fun K => ga K "law", "law", "law", defArgs Lw.s_law, defBody Lw.s_law, defScope Lw.s_law, [], []⟩)
  have e := hfa.symm.trans (glo_ok X G (x := "law") (c.fact 82 (f := Hk.fa (.glo "law"))))
  cases e
  refine ⟨fd_law, fun s v => FunD.bindsA (ps := ["_law_script"]) F_law (fun _ _ _ _ _ _ us hl => match us, hl with | [_], _ => rfl) s [v] rfl, fun base => ?_⟩
  have g_l_pick := Lw.ok_l_pick (P := L.prog) (w := w) (base := base) T  F_l_pick
  have c_l_pick := cal_mk g_l_pick (glo_ok X G (x := "_law_pick") (c.fact 57 (f := Hk.fa (.glo "_law_pick")))) F_l_pick.kp (FunD.bindsN (ps := Lw.P_l_pick) F_l_pick fun _ _ _ _ _ _ us hl => match us, hl with | [_, _], _ => rfl) .nil
  have g_l_one_in := Lw.ok_l_one_in (P := L.prog) (w := w) (base := base) T c_l_pick F_l_one_in
  have c_l_one_in := cal_mk g_l_one_in (glo_ok X G (x := "_law_one_in") (c.fact 59 (f := Hk.fa (.glo "_law_one_in")))) F_l_one_in.kp (FunD.bindsN (ps := Lw.P_l_one_in) F_l_one_in fun _ _ _ _ _ _ us hl => match us, hl with | [_, _], _ => rfl) .nil
  have g_l_choice := Lw.ok_l_choice (P := L.prog) (w := w) (base := base) T c_l_pick F_l_choice
  have c_l_choice := cal_mk g_l_choice (glo_ok X G (x := "_law_choice") (c.fact 58 (f := Hk.fa (.glo "_law_choice")))) F_l_choice.kp (FunD.bindsN (ps := Lw.P_l_choice) F_l_choice fun _ _ _ _ _ _ us hl => match us, hl with | [_, _], _ => rfl) .nil
  have g_l_bag_of := Lw.ok_l_bag_of (P := L.prog) (w := w) (base := base) T  F_l_bag_of
  have c_l_bag_of := cal_mk g_l_bag_of (glo_ok X G (x := "_law_bag_of") (c.fact 56 (f := Hk.fa (.glo "_law_bag_of")))) F_l_bag_of.kp (FunD.bindsN (ps := Lw.P_l_bag_of) F_l_bag_of fun _ _ _ _ _ _ us hl => match us, hl with | [_], _ => rfl) .nil
  have g_l_integer := Lw.ok_l_integer (P := L.prog) (w := w) (base := base) T  F_l_integer
  have c_l_integer := cal_mk g_l_integer (glo_ok X G (x := "_law_integer") (c.fact 60 (f := Hk.fa (.glo "_law_integer")))) F_l_integer.kp (FunD.bindsN (ps := Lw.P_l_integer) F_l_integer fun _ _ _ _ _ _ us hl => match us, hl with | [_], _ => rfl) .nil
  have g_is_integer := Lw.ok_is_integer (P := L.prog) (w := w) (base := base) T  F_is_integer
  obtain ⟨ds_is_integer_1, v_is_integer_1, b_is_integer_1⟩ := FunD.binds1 (ps := Lw.P_is_integer) F_is_integer 1 0 (List.cons_ne_nil _ _) rfl (fun T _ _ _ _ _ _ us its hu hi => match us, hu, its, hi with | [_], _, [_, _], _ => ⟨_, rfl, rfl⟩)
  have c_is_integer_1 : Cal L.prog w K mg base 1 "is_integer" Lw.P_is_integer [.non, .non] _ := cal_mk g_is_integer (glo_ok X G (x := "is_integer") (c.fact 46 (f := Hk.fa (.glo "is_integer")))) F_is_integer.kp b_is_integer_1 v_is_integer_1
  obtain ⟨ds_is_integer_2, v_is_integer_2, b_is_integer_2⟩ := FunD.binds1 (ps := Lw.P_is_integer) F_is_integer 2 1 (List.cons_ne_nil _ _) rfl (fun T _ _ _ _ _ _ us its hu hi => match us, hu, its, hi with | [_, _], _, [_, _], _ => ⟨_, rfl, rfl⟩)
  have c_is_integer_2 : Cal L.prog w K mg base 1 "is_integer" Lw.P_is_integer [.non] _ := cal_mk g_is_integer (glo_ok X G (x := "is_integer") (c.fact 46 (f := Hk.fa (.glo "is_integer")))) F_is_integer.kp b_is_integer_2 v_is_integer_2
  obtain ⟨ds_is_integer_3, v_is_integer_3, b_is_integer_3⟩ := FunD.binds1 (ps := Lw.P_is_integer) F_is_integer 3 2 (List.cons_ne_nil _ _) rfl (fun T _ _ _ _ _ _ us its hu hi => match us, hu, its, hi with | [_, _, _], _, [_, _], _ => ⟨_, rfl, rfl⟩)
  have c_is_integer_3 : Cal L.prog w K mg base 1 "is_integer" Lw.P_is_integer [] _ := cal_mk g_is_integer (glo_ok X G (x := "is_integer") (c.fact 46 (f := Hk.fa (.glo "is_integer")))) F_is_integer.kp b_is_integer_3 v_is_integer_3
  have g_l_letters_of := Lw.ok_l_letters_of (P := L.prog) (w := w) (base := base) T c_l_pick F_l_letters_of
  have c_l_letters_of := cal_mk g_l_letters_of (glo_ok X G (x := "_law_letters_of") (c.fact 61 (f := Hk.fa (.glo "_law_letters_of")))) F_l_letters_of.kp (FunD.bindsN (ps := Lw.P_l_letters_of) F_l_letters_of fun _ _ _ _ _ _ us hl => match us, hl with | [_, _], _ => rfl) .nil
  have g_l_words := Lw.ok_l_words (P := L.prog) (w := w) (base := base) T  F_l_words
  have c_l_words := cal_mk g_l_words (glo_ok X G (x := "_law_words") (c.fact 62 (f := Hk.fa (.glo "_law_words")))) F_l_words.kp (FunD.bindsN (ps := Lw.P_l_words) F_l_words fun _ _ _ _ _ _ us hl => match us, hl with | [], _ => rfl) .nil
  have g_l_names_of := Lw.ok_l_names_of (P := L.prog) (w := w) (base := base) T c_l_letters_of c_l_pick c_l_words F_l_names_of
  have c_l_names_of := cal_mk g_l_names_of (glo_ok X G (x := "_law_names_of") (c.fact 63 (f := Hk.fa (.glo "_law_names_of")))) F_l_names_of.kp (FunD.bindsN (ps := Lw.P_l_names_of) F_l_names_of fun _ _ _ _ _ _ us hl => match us, hl with | [_, _], _ => rfl) .nil
  have g_is_dimension := Lw.ok_is_dimension (P := L.prog) (w := w) (base := base) T c_is_integer_3 F_is_dimension
  have c_is_dimension := cal_mk g_is_dimension (glo_ok X G (x := "is_dimension") (c.fact 47 (f := Hk.fa (.glo "is_dimension")))) F_is_dimension.kp (FunD.bindsN (ps := Lw.P_is_dimension) F_is_dimension fun _ _ _ _ _ _ us hl => match us, hl with | [_, _], _ => rfl) .nil
  have g_multiplied := Lw.ok_multiplied (P := L.prog) (w := w) (base := base) T c_is_dimension F_multiplied
  have c_multiplied := cal_mk g_multiplied (glo_ok X G (x := "multiplied") (c.fact 48 (f := Hk.fa (.glo "multiplied")))) F_multiplied.kp (FunD.bindsN (ps := Lw.P_multiplied) F_multiplied fun _ _ _ _ _ _ us hl => match us, hl with | [_, _], _ => rfl) .nil
  have g_divided := Lw.ok_divided (P := L.prog) (w := w) (base := base) T c_is_dimension F_divided
  have c_divided := cal_mk g_divided (glo_ok X G (x := "divided") (c.fact 49 (f := Hk.fa (.glo "divided")))) F_divided.kp (FunD.bindsN (ps := Lw.P_divided) F_divided fun _ _ _ _ _ _ us hl => match us, hl with | [_, _], _ => rfl) .nil
  have g_base_dimension := Lw.ok_base_dimension (P := L.prog) (w := w) (base := base) T  F_base_dimension
  have c_base_dimension := cal_mk g_base_dimension (glo_ok X G (x := "base_dimension") (c.fact 50 (f := Hk.fa (.glo "base_dimension")))) F_base_dimension.kp (FunD.bindsN (ps := Lw.P_base_dimension) F_base_dimension fun _ _ _ _ _ _ us hl => match us, hl with | [_, _], _ => rfl) .nil
  have g_terms_of := Lw.ok_terms_of (P := L.prog) (w := w) (base := base) T  F_terms_of
  have c_terms_of := cal_mk g_terms_of (glo_ok X G (x := "terms_of") (c.fact 51 (f := Hk.fa (.glo "terms_of")))) F_terms_of.kp (FunD.bindsN (ps := Lw.P_terms_of) F_terms_of fun _ _ _ _ _ _ us hl => match us, hl with | [_], _ => rfl) .nil
  have g_power_of := Lw.ok_power_of (P := L.prog) (w := w) (base := base) T  F_power_of
  have c_power_of := cal_mk g_power_of (glo_ok X G (x := "power_of") (c.fact 52 (f := Hk.fa (.glo "power_of")))) F_power_of.kp (FunD.bindsN (ps := Lw.P_power_of) F_power_of fun _ _ _ _ _ _ us hl => match us, hl with | [_], _ => rfl) .nil
  have g_read_product := Lw.ok_read_product (P := L.prog) (w := w) (base := base) T c_is_dimension c_power_of c_terms_of F_read_product
  have c_read_product := cal_mk g_read_product (glo_ok X G (x := "read_product") (c.fact 53 (f := Hk.fa (.glo "read_product")))) F_read_product.kp (FunD.bindsN (ps := Lw.P_read_product) F_read_product fun _ _ _ _ _ _ us hl => match us, hl with | [_, _], _ => rfl) .nil
  have g_write_product := Lw.ok_write_product (P := L.prog) (w := w) (base := base) T  F_write_product
  have c_write_product := cal_mk g_write_product (glo_ok X G (x := "write_product") (c.fact 54 (f := Hk.fa (.glo "write_product")))) F_write_product.kp (FunD.bindsN (ps := Lw.P_write_product) F_write_product fun _ _ _ _ _ _ us hl => match us, hl with | [_, _], _ => rfl) .nil
  have g_is_name := Lw.ok_is_name (P := L.prog) (w := w) (base := base) T  F_is_name
  have c_is_name := cal_mk g_is_name (glo_ok X G (x := "is_name") (c.fact 55 (f := Hk.fa (.glo "is_name")))) F_is_name.kp (FunD.bindsN (ps := Lw.P_is_name) F_is_name fun _ _ _ _ _ _ us hl => match us, hl with | [_], _ => rfl) .nil
  have g_l_own_names := Lw.ok_l_own_names (P := L.prog) (w := w) (base := base) T c_l_names_of c_l_one_in c_l_pick F_l_own_names
  have c_l_own_names := cal_mk g_l_own_names (glo_ok X G (x := "_law_own_names") (c.fact 64 (f := Hk.fa (.glo "_law_own_names")))) F_l_own_names.kp (FunD.bindsN (ps := Lw.P_l_own_names) F_l_own_names fun _ _ _ _ _ _ us hl => match us, hl with | [_], _ => rfl) .nil
  have g_l_exponent := Lw.ok_l_exponent (P := L.prog) (w := w) (base := base) T c_l_choice c_l_pick F_l_exponent
  have c_l_exponent := cal_mk g_l_exponent (glo_ok X G (x := "_law_exponent") (c.fact 65 (f := Hk.fa (.glo "_law_exponent")))) F_l_exponent.kp (FunD.bindsN (ps := Lw.P_l_exponent) F_l_exponent fun _ _ _ _ _ _ us hl => match us, hl with | [_], _ => rfl) .nil
  have g_l_product := Lw.ok_l_product (P := L.prog) (w := w) (base := base) T c_l_choice c_l_exponent c_l_one_in c_l_pick F_l_product
  have c_l_product := cal_mk g_l_product (glo_ok X G (x := "_law_product") (c.fact 66 (f := Hk.fa (.glo "_law_product")))) F_l_product.kp (FunD.bindsN (ps := Lw.P_l_product) F_l_product fun _ _ _ _ _ _ us hl => match us, hl with | [_, _], _ => rfl) .nil
  have g_l_figure_of := Lw.ok_l_figure_of (P := L.prog) (w := w) (base := base) T  F_l_figure_of
  have c_l_figure_of := cal_mk g_l_figure_of (glo_ok X G (x := "_law_figure_of") (c.fact 67 (f := Hk.fa (.glo "_law_figure_of")))) F_l_figure_of.kp (FunD.bindsN (ps := Lw.P_l_figure_of) F_l_figure_of fun _ _ _ _ _ _ us hl => match us, hl with | [_], _ => rfl) .nil
  have g_l_powers_of := Lw.ok_l_powers_of (P := L.prog) (w := w) (base := base) T c_l_figure_of F_l_powers_of
  have c_l_powers_of := cal_mk g_l_powers_of (glo_ok X G (x := "_law_powers_of") (c.fact 68 (f := Hk.fa (.glo "_law_powers_of")))) F_l_powers_of.kp (FunD.bindsN (ps := Lw.P_l_powers_of) F_l_powers_of fun _ _ _ _ _ _ us hl => match us, hl with | [_, _], _ => rfl) .nil
  have g_l_written := Lw.ok_l_written (P := L.prog) (w := w) (base := base) T  F_l_written
  have c_l_written := cal_mk g_l_written (glo_ok X G (x := "_law_written") (c.fact 69 (f := Hk.fa (.glo "_law_written")))) F_l_written.kp (FunD.bindsN (ps := Lw.P_l_written) F_l_written fun _ _ _ _ _ _ us hl => match us, hl with | [_, _], _ => rfl) .nil
  have g_l_same := Lw.ok_l_same (P := L.prog) (w := w) (base := base) T c_l_integer F_l_same
  have c_l_same := cal_mk g_l_same (glo_ok X G (x := "_law_same") (c.fact 70 (f := Hk.fa (.glo "_law_same")))) F_l_same.kp (FunD.bindsN (ps := Lw.P_l_same) F_l_same fun _ _ _ _ _ _ us hl => match us, hl with | [_, _], _ => rfl) .nil
  have g_l_right_reading := Lw.ok_l_right_reading (P := L.prog) (w := w) (base := base) T c_l_powers_of c_l_same c_read_product F_l_right_reading
  have c_l_right_reading := cal_mk g_l_right_reading (glo_ok X G (x := "_law_right_reading") (c.fact 71 (f := Hk.fa (.glo "_law_right_reading")))) F_l_right_reading.kp (FunD.bindsN (ps := Lw.P_l_right_reading) F_l_right_reading fun _ _ _ _ _ _ us hl => match us, hl with | [_, _], _ => rfl) .nil
  have g_l_spoilt := Lw.ok_l_spoilt (P := L.prog) (w := w) (base := base) T c_l_choice c_l_pick F_l_spoilt
  have c_l_spoilt := cal_mk g_l_spoilt (glo_ok X G (x := "_law_spoilt") (c.fact 72 (f := Hk.fa (.glo "_law_spoilt")))) F_l_spoilt.kp (FunD.bindsN (ps := Lw.P_l_spoilt) F_l_spoilt fun _ _ _ _ _ _ us hl => match us, hl with | [_, _], _ => rfl) .nil
  have g_l_odd_texts := Lw.ok_l_odd_texts (P := L.prog) (w := w) (base := base) T  F_l_odd_texts
  have c_l_odd_texts := cal_mk g_l_odd_texts (glo_ok X G (x := "_law_odd_texts") (c.fact 73 (f := Hk.fa (.glo "_law_odd_texts")))) F_l_odd_texts.kp (FunD.bindsN (ps := Lw.P_l_odd_texts) F_l_odd_texts fun _ _ _ _ _ _ us hl => match us, hl with | [_, _], _ => rfl) .nil
  have g_l_long_texts := Lw.ok_l_long_texts (P := L.prog) (w := w) (base := base) T  F_l_long_texts
  have c_l_long_texts := cal_mk g_l_long_texts (glo_ok X G (x := "_law_long_texts") (c.fact 74 (f := Hk.fa (.glo "_law_long_texts")))) F_l_long_texts.kp (FunD.bindsN (ps := Lw.P_l_long_texts) F_l_long_texts fun _ _ _ _ _ _ us hl => match us, hl with | [], _ => rfl) .nil
  have g_l_multiplied_told := Lw.ok_l_multiplied_told (P := L.prog) (w := w) (base := base) T c_divided c_multiplied F_l_multiplied_told
  have c_l_multiplied_told := cal_mk g_l_multiplied_told (glo_ok X G (x := "_law_multiplied_told") (c.fact 75 (f := Hk.fa (.glo "_law_multiplied_told")))) F_l_multiplied_told.kp (FunD.bindsN (ps := Lw.P_l_multiplied_told) F_l_multiplied_told fun _ _ _ _ _ _ us hl => match us, hl with | [_, _, _], _ => rfl) .nil
  have g_l_base_told := Lw.ok_l_base_told (P := L.prog) (w := w) (base := base) T c_base_dimension F_l_base_told
  have c_l_base_told := cal_mk g_l_base_told (glo_ok X G (x := "_law_base_told") (c.fact 76 (f := Hk.fa (.glo "_law_base_told")))) F_l_base_told.kp (FunD.bindsN (ps := Lw.P_l_base_told) F_l_base_told fun _ _ _ _ _ _ us hl => match us, hl with | [_, _], _ => rfl) .nil
  have g_l_dimension := Lw.ok_l_dimension (P := L.prog) (w := w) (base := base) T c_l_pick F_l_dimension
  have c_l_dimension := cal_mk g_l_dimension (glo_ok X G (x := "_law_dimension") (c.fact 77 (f := Hk.fa (.glo "_law_dimension")))) F_l_dimension.kp (FunD.bindsN (ps := Lw.P_l_dimension) F_l_dimension fun _ _ _ _ _ _ us hl => match us, hl with | [_, _], _ => rfl) .nil
  have g_l_right_products := Lw.ok_l_right_products (P := L.prog) (w := w) (base := base) T c_l_multiplied_told c_l_same F_l_right_products
  have c_l_right_products := cal_mk g_l_right_products (glo_ok X G (x := "_law_right_products") (c.fact 78 (f := Hk.fa (.glo "_law_right_products")))) F_l_right_products.kp (FunD.bindsN (ps := Lw.P_l_right_products) F_l_right_products fun _ _ _ _ _ _ us hl => match us, hl with | [_, _], _ => rfl) .nil
  have g_l_right_kinds := Lw.ok_l_right_kinds (P := L.prog) (w := w) (base := base) T c_is_dimension c_l_pick F_l_right_kinds
  have c_l_right_kinds := cal_mk g_l_right_kinds (glo_ok X G (x := "_law_right_kinds") (c.fact 79 (f := Hk.fa (.glo "_law_right_kinds")))) F_l_right_kinds.kp (FunD.bindsN (ps := Lw.P_l_right_kinds) F_l_right_kinds fun _ _ _ _ _ _ us hl => match us, hl with | [_, _], _ => rfl) .nil
  have g_l_right_bases := Lw.ok_l_right_bases (P := L.prog) (w := w) (base := base) T c_l_base_told c_l_same F_l_right_bases
  have c_l_right_bases := cal_mk g_l_right_bases (glo_ok X G (x := "_law_right_bases") (c.fact 80 (f := Hk.fa (.glo "_law_right_bases")))) F_l_right_bases.kp (FunD.bindsN (ps := Lw.P_l_right_bases) F_l_right_bases fun _ _ _ _ _ _ us hl => match us, hl with | [_], _ => rfl) .nil
  have g_l_right_names := Lw.ok_l_right_names (P := L.prog) (w := w) (base := base) T c_is_name c_l_words F_l_right_names
  have c_l_right_names := cal_mk g_l_right_names (glo_ok X G (x := "_law_right_names") (c.fact 81 (f := Hk.fa (.glo "_law_right_names")))) F_l_right_names.kp (FunD.bindsN (ps := Lw.P_l_right_names) F_l_right_names fun _ _ _ _ _ _ us hl => match us, hl with | [_], _ => rfl) .nil
  have g_law := Lw.ok_law (P := L.prog) (w := w) (base := base) T c_l_bag_of c_l_dimension c_l_long_texts c_l_odd_texts c_l_one_in c_l_own_names c_l_pick c_l_powers_of c_l_product c_l_right_bases c_l_right_kinds c_l_right_names c_l_right_products c_l_right_reading c_l_same c_l_spoilt c_l_written c_read_product c_write_product F_law
  exact g_law
end Hd
open PySem PySem.W PySem.Calls PyProof.Rows
theorem PySem.Challenge.cw_ellwarden_k02_product_texts_holds : PySem.Challenge.rw_ellwarden_k02_product_texts.Holds := by
  w_on; o_law
  refine HandSHeadRun.head_any (r := Hd.R) (q := Hd.V) (H := Hd.hk) (ob := fun s => Hk.obsOG 5 Hd.fb Hd.fn Hd.xs (HandSHeadRun.getT s)) (M := 6000) (loose := Hd.names) (d := HandSHeadRun.topDef Hd.R.prog 49) (kwd := []) (fun s => Hk.obsOG_eq (HandSHeadRun.getT_eq s))
    (by kernel_rfl) (fun s => by kernel_rfl) Hd.run (by kernel_rfl) (by kernel_rfl) (by kernel_rfl) (by rfl) (by first | assumption | decide +kernel) (by decide +kernel) ⟨rfl, rfl, rfl, rfl, rfl, by decide +kernel⟩ ?hw ?hc
  case hw => w_witness2
  case hc =>
    refine Uv.walk_g (l := Hd.L) (n := 63) (k := 6) (x := "_law_script") rfl (by decide) (by kernel_rfl) ⟨rfl, by decide, by decide⟩ ?F
    intro w mg fa h Y G hmg0
    obtain ⟨K, KX, c⟩ := Y
    have hmg : mg ("law" : PySem.Str) = some (.ref fa) := by
      have e : (HandSHeadRun.topDef Hd.R.prog 49).name = ("law" : PySem.Str) := by kernel_rfl
      rw [← e]
      exact hmg0
    obtain ⟨fd, hb, hF⟩ := Hd.chain (w := w) KX G hmg c
    exact ⟨K, fd, _, KX, hb, fun H a ns hl hbits hS => ⟨a, ns, rfl, hS, hl, fun z hz => Uv.bits_log (hbits z hz), fun _ => rfl⟩, fun base _ _ => hF base⟩
