import PyProof.Rows.All
import Wide.All
import OpenK.AllK
import Wide.FinOn
import KE.KStateDown
import KE.KExcSuper
import KE.KIsAll
import Lean
import HandS.ForMost
import HandS.ForExc
import HandS.Head0
import HandS.Head1
import HandS.Head2
import HandS.Head3
import HandS.HeadEnd
import HandS.HeadHook1
import HandS.HeadHook2
import HandS.HeadNt
import HandS.Defaults
import HandS.Gcd
import HandS.FStr
import HandS.Wide
import HandS.EndBits
import HandS.ExcInit
import HandS.ExcIs
import HandS.ExcField
import HandS.IsInst
import HandS.Style
import HandS.TupAny
import HandS.TupLe
import HandS.Deep
import HandS.RaiseMore
import HandS.MakeKw
import HandS.TupMul
import HandS.HeadWalk
import HandS.Evl
import HandS.Zip
import HandS.ReplaceLit
import HandS.ReplaceList
import HandS.SlotsOwn
import HandS.ClsMeth
import KE.KOpsOwn
import HandS.OwnEq
import KE.KDictCopyH
import HandS.Conv
import HandS.More
import HandS.Strs
import KE.DataMinMax
import KE.SortKeyHeap
import KE.DataCmp
import HandS.HotCalls
import KE.KStrBytes
import PySem.Challenge.RW_ellwarden_k26_worlds

set_option Elab.async false
set_option linter.all false
set_option maxRecDepth 100000
set_option maxHeartbeats 4000000
namespace Uv
open PySem PySem.Spec L2
open PyProof.Rows hiding St

/-! ### a def's promise, asked where no repr is running -/
structure FnG (P : Program) (w : World) (K : PySem.W.Frag) (mg : Str → Option Value) (base : Heap) (k : Nat) (f : Addr) (fd : FuncData) (ps : List Str) (sp : Sp) : Prop where
  len : ∀ vs H Q E, sp vs H Q E → vs.length = ps.length
  run : ∀ (A : Around) (outer : List Env) (s : Shared) (H : Hp) (args : Args) (us : List Value) (vs : List V) (Q : VK) (E : XK), Room k A → A.guards = some [] → Env0 P w K mg base A outer s H → BindsTo s fd args (ps.zip us) → Vals vs us → sp vs H Q E →
    codeAny (model P w) A (.call (.ref f) args) (CR (L2.CX P w) outer P w H s Q E) s
theorem FnG.mono {P : Program} {w : World} {K : PySem.W.Frag} {mg : Str → Option Value} {base : Heap} {j k : Nat} {f : Addr} {fd : FuncData} {ps : List Str} {sp : Sp} (F : FnG P w K mg base j f fd ps sp) (h : j ≤ k) : FnG P w K mg base k f fd ps sp :=
  ⟨F.len, fun A outer s H args us vs Q E hr => F.run A outer s H args us vs Q E (hr.mono h)⟩
section
variable {P : Program} {w : World} {K : PySem.W.Frag} {mg : Str → Option Value} {base : Heap} {x qual : Str} {params : Arguments} {body : List Stmt} {scope : Scope} {dvs : List V} {kws : List (Str × V)} {f : Addr} {fd : FuncData}
/-- THE RULE for a def -/
theorem fng {N ps : List Str} {k : Nat} {sp : Sp} (F : FunD K x qual params body scope dvs kws f fd) (S : FnScope N ps scope) (len : ∀ vs H Q E, sp vs H Q E → vs.length = ps.length)
    (hbody : ∀ (cdv : Value) (A : Around) (outer : List Env) (s : Shared) (H : Hp) (vs : List V) (Q : VK) (E : XK), Room k (A.deeper (envOfC qual scope s.heap.objs.size f cdv)) → (A.deeper (envOfC qual scope s.heap.objs.size f cdv)).guards = some [] → sp vs H Q E →
      ∃ t, PSs (cxOf (L2.CX P w) P w K mg base N qual scope f cdv A outer s H E) body t ∧ t { nx := fun _ H' => Q .non H', rt := Q } (start N vs) H) : FnG P w K mg base (k + 1) f fd ps sp := by
  obtain ⟨oc, od, dV, kV, doc, pm, an, cdv, ct, osl, rfl, lk, hcd, _, _⟩ := F.ex
  refine ⟨len, fun A outer s H args us vs Q E hr hgd e0 hb r hsp => ?_⟩
  have hl := len _ _ _ _ hsp
  have KX : K.In s.heap := e0.mod.kin.keeps fun b o e => (e0.bs b o e).1
  have lim : s.heap.NoLimit := e0.mod.nolimit.keeps fun b o e => (e0.bs b o e).1
  have kinds : ∀ y ∈ ps.zip us, scope.names.lookup y.1 = some .local ∨ (scope.names.lookup y.1 = some .cell ∧ ((cellsFrom (s.heap.objs.size + 1) scope.names []).lookup y.1).isSome = true) := fun ⟨n, v⟩ hy => by
    rcases S.par n (List.of_mem_zip hy).1 with q | q
    · exact .inl q
    · exact .inr ⟨q, PySem.W.cellsFrom_some _ _ _ (.inl q)⟩
  refine codeAny_call_function hr.depth (KX _ _ lk) rfl S.co S.gen rfl (PySem.W.codeRec_of KX hcd) (hb _ _ _ _ ?_)
  refine wpAny_newFunctionEnv_cells S.kind kinds fun env he s1 z => ?_
  subst he
  refine ⟨lim.keeps z.toInCall.keep, codeAny_func ?_⟩
  obtain ⟨t, ht, hq⟩ := hbody cdv A outer s H vs Q E (hr.deeper _) hgd hsp
  have I : Inv (cxOf (L2.CX P w) P w K mg base N qual scope f cdv A outer s H E) [] (start N vs) H s1 := inv_start S hr.hd e0 hl r z
  refine wpAny_mono (ht.run [] s1 (start N vs) H _ I hq) (fun fl s' hs => ?_) fun e s' hs => hs
  have fin : ∀ {σ' : L2.St} {H' : Hp} {v : V} {u : Value}, Inv (cxOf (L2.CX P w) P w K mg base N qual scope f cdv A outer s H E) [] σ' H' s' → RelV v u → Q v H' → CE outer P w H s Q u s' :=
    fun {σ' H' v u} J rv q => ⟨v, H', J.os, J.bare, J.base, J.hok, rv, q⟩
  match fl, hs with
  | .ret u, hs => obtain ⟨v, σ', H', J, rv, q⟩ := hs; exact fin J rv q
  | .next, hs => obtain ⟨σ', H', J, q⟩ := hs; exact fin (v := V.non) (u := Value.none) J rfl q
  | .brk, hs => obtain ⟨_, _, _, q⟩ := hs; exact q.elim
  | .cont, hs => obtain ⟨_, _, _, q⟩ := hs; exact q.elim
end

/-! ### calls of defs by their names, whatever their defaults -/
structure Cal (P : Program) (w : World) (K : PySem.W.Frag) (mg : Str → Option Value) (base : Heap) (k : Nat) (x : Str) (ps : List Str) (dvs : List V) (sp : Sp) : Prop where
  ex : ∃ (f : Addr) (fd : FuncData) (ds : List Value), FnG P w K mg base k f fd ps sp ∧ mg x = some (.ref f) ∧ PySem.W.keepIn K (.ref f) = true ∧ Binds K fd ps ds ∧ Vals dvs ds
/-- nothing is let out -/
abbrev En : L2.St → XK := fun _ => E0
theorem paN {X : Cx} : ∀ σ, PassesAt (L2.CX X.prog X.w) X σ (En σ) := fun _ _ _ _ _ _ _ h => by
  obtain ⟨_, _, _, _, _, _, _, _, _, _, _, _, z⟩ := h
  exact z.elim
/-- room for k calls, no repr running -/
structure Rm (k : Nat) (A : Around) : Prop where
  r : Room k A
  g : A.guards = some []
theorem Rm.mono {j k : Nat} {A : Around} (h : Rm k A) (l : j ≤ k) : Rm j A := ⟨h.r.mono l, h.g⟩
def uCall (sp : Sp) (dvs : List V) (E : L2.St → XK) (t : TA) : TE := fun σ H Q => t σ H fun vs H1 => sp (vs ++ dvs) H1 Q (E σ)
section
variable {X : Cx} {k : Nat} {f C : Addr} {fd : FuncData} {ps : List Str} {sp : Sp} {E : L2.St → XK} {x m : Str} {p pos apos : Pos} {e o : Expr} {es : List Expr} {t : TA} {ta : TE} {dvs : List V} {ds : List Value}
theorem run_cal {pins : List (Addr × Obj)} {σ : L2.St} {H : Hp} {s : Shared} {Q : VK} {us : List Value} {vs : List V} (F : FnG X.prog X.w X.K X.mg X.base k f fd ps sp) (hr : Rm k X.A) (hb : Binds X.K fd ps ds) (hd : Vals dvs ds)
    (hx : PassesAt (L2.CX X.prog X.w) X σ (E σ)) (I : Inv X pins σ H s) (r : Vals vs us) (h : sp (vs ++ dvs) H Q (E σ)) : wpAny (model X.prog X.w) X.A (call (.ref f) us) (EP X pins σ Q) X.xe s := by
  have rr : Vals (vs ++ dvs) (us ++ ds) := r.append hd
  have ll : (us ++ ds).length = ps.length := rr.length.symm.trans (F.len _ _ _ _ h)
  refine wpAny_call (codeAny_mono (F.run X.A X.stack s H ⟨us, []⟩ (us ++ ds) (vs ++ dvs) Q (E σ) hr.r hr.g I.env0 (hb s us I.kIn ll) rr h) fun q s' hq => ?_)
  match q, hq with
  | .error er, hq => exact hx pins H s er s' I hq
  | .ok (.ret u), hq => exact I.after hq
  | .ok .next, hq => exact hq.elim
  | .ok .brk, hq => exact hq.elim
  | .ok .cont, hq => exact hq.elim
theorem pe_c (c : Cal X.prog X.w X.K X.mg X.base k x ps dvs sp) (hr : Rm k X.A) (hx : ∀ σ, PassesAt (L2.CX X.prog X.w) X σ (E σ)) (ha : PA X (e :: es) t) (hg : Gl X x := by rfl) (hdb : (x == ("__debug__" : Str)) = false := by decide)
    (he : starEach (e :: es) X.env = (false, eval e X.env) :: starEach es X.env := by rfl) (hpl : (backTo pos (starEach es X.env)).any (·.1) = false := by rfl) : PE X (.Call (.Name x p) (e :: es) [] pos) (uCall sp dvs E t) := by
  obtain ⟨f, fd, ds, F, hm, hk, hb, hd⟩ := c.ex
  exact ⟨fun pins s σ H Q I h => wpAny_Call_Name_kw (ld_glob I hg hm (PySem.W.callWith_K (h₀ := X.base) I.ok.mod.kin hk (thn (ha.run pos pins s σ H _ I h) fun us s1 z => by
    obtain ⟨vs, H1, I1, r, q⟩ := z
    exact ⟨I1.kIn, run_cal F hr hb hd (hx σ) I1 r q⟩) he hpl) hdb)⟩
theorem pe_c0 (c : Cal X.prog X.w X.K X.mg X.base k x ps dvs sp) (hr : Rm k X.A) (hx : ∀ σ, PassesAt (L2.CX X.prog X.w) X σ (E σ)) (hg : Gl X x := by rfl) (hdb : (x == ("__debug__" : Str)) = false := by decide) :
    PE X (.Call (.Name x p) [] [] pos) (uCall sp dvs E tNil) := by
  obtain ⟨f, fd, ds, F, hm, hk, hb, hd⟩ := c.ex
  exact ⟨fun pins s σ H Q I h => wpAny_Call_Name_kw (ld_glob I hg hm (PySem.W.callWith_K0 I.kIn hk (run_cal (us := []) F hr hb hd (hx σ) I .nil h)) hdb)⟩
end

/-! ### a tuple times 1 -/
theorem tuple_mul1 (l : Addr) (items : Array Value) (n : Nat) (dd : Option Addr) (sl : Array (Option Value)) (u : Tok) :
    Meets (Builtin.«tuple.__mul__» ⟨[.ref l, .int 1 u], []⟩) (fun _ R s => s.heap.get? l = some { cls := .type "tuple", dict := dd, data := .seq items n, slots := sl } ∧ R (.ok (.ret (Value.ref l))) s) :=
  .of_wp fun prog w A R s h => by
    obtain ⟨hp, g, d, tk, os⟩ := s
    obtain ⟨hl, h⟩ := h
    have f1 := AutoSeq1.idx_int
    have c0 : (decide ((1 : Int) < -(2 ^ 63)) || decide ((1 : Int) ≥ 2 ^ 63)) = false := by decide
    have c1 : (items.isEmpty || (1 : Int) == 1) = true := by simp
    wp_walk using wpAny_loadPart' hl
    repeat (first
      | (refine wpAny_ite_false (decide_eq_false (by rw [c0]; exact Bool.false_ne_true)) ?_; wp_walk using wpAny_loadPart' hl)
      | (refine wpAny_ite_true (decide_eq_true c1) ?_; wp_walk using wpAny_loadPart' hl))
    exact ⟨_, rfl, h⟩
def rRepT1 (K : PySem.W.Frag) : R2 := fun x y H Q => ∃ l xs, x = .ref l ∧ y = .int 1 ∧ SqT K H l xs ∧ Q (.ref l) H
theorem op_repT1 {X : Cx} : OpR X (binaryOp .Mult) (rRepT1 X.K) := by
  intro pins s σ H x y v u Q I rx ry h
  obtain ⟨l, xs, rfl, rfl, hT, q⟩ := h
  cases rx
  obtain ⟨t, rfl⟩ := ry
  obtain ⟨its, r, ⟨⟨cls, dd, data, sl⟩, ho, hc, n, hd⟩, hs⟩ := I.tuple hT
  simp only at hc hd
  subst hc hd
  exact wpAny_binaryOp_repeat_ref (T := "tuple") (U := "int") (by decide) ⟨_, ho, rfl⟩ (fun s' => typeIs_int s' 1 t) noFill_tuple_mul F.fills_int_mul F.slot_int_rmul repeat_tuple F.slot_int_index.lookup
    (call_meets F.slot_int_rmul (typeIs_int s 1 t) F.entry_int_rmul (F.args_int_rmul_2 _ _) (int_rmul_tuple 1 t l its.toArray n dd sl)
      ⟨ho, rfl, ⟨_, ho, rfl⟩, call_meets F.slot_tuple_mul ⟨_, ho, rfl⟩ F.entry_tuple_mul (F.args_tuple_mul_2 _ _) (tuple_mul1 l its.toArray n dd sl t) ⟨ho, ⟨.ref l, H, I, rfl, q⟩⟩⟩)

/-! ### operators that look at the kinds themselves -/
def uAdd (K : PySem.W.Frag) : R2 := fun x y H Q => match x, y with
  | .int i, .int j => Q (.int (i + j)) H
  | .str a, .str b => a.length + b.length ≤ sizeLine ∧ Q (.str (a ++ b)) H
  | .ref a, .ref b => rCat (.ref a) (.ref b) H Q ∨ rCatA K (.ref a) (.ref b) H Q
  | _, _ => False
def uMul (K : PySem.W.Frag) : R2 := fun x y H Q => match x, y with
  | .int i, .int j => (CMul i j ∨ CMulW i j) ∧ Q (.int (i * j)) H
  | .str a, .int n => MulOk a n ∧ Q (.str (Txt.mul a n)) H
  | .ref a, .int n => rRep (.ref a) (.int n) H Q ∨ rRepT K (.ref a) (.int n) H Q ∨ rRepT1 K (.ref a) (.int n) H Q
  | _, _ => False
def uDiv : R2 := fun x y H Q => match x, y with
  | .int i, .int j => (j ≠ 0 ∧ j.natAbs.log2 < 9000) ∧ Q (.int (i.fdiv j)) H
  | _, _ => False
def uEq (K : PySem.W.Frag) : R2 := fun x y H Q => match x, y with
  | .int i, .int j => Q (.bl (decide (i = j))) H
  | .str a, .str b => Q (.bl (decide (a = b))) H
  | .bl a, .bl b => Q (.bl (decide (a = b))) H
  | x, y => rEqD K x y H Q
def uNe (K : PySem.W.Frag) : R2 := fun x y H Q => match x, y with
  | .int i, .int j => Q (.bl (!decide (i = j))) H
  | .str a, .str b => Q (.bl (!decide (a = b))) H
  | .bl a, .bl b => Q (.bl (!decide (a = b))) H
  | x, y => rNeD K x y H Q
section
variable {X : Cx}
theorem op_uAdd : OpR X (binaryOp .Add) (uAdd X.K) := by
  intro pins s σ H x y u v Q I rx ry h
  cases x with
  | int i =>
    cases y with
    | int j => exact op_add pins s σ H _ _ _ _ Q I rx ry ⟨i, j, rfl, rfl, h⟩
    | _ => exact h.elim
  | str a =>
    cases y with
    | str b => exact op_add_str pins s σ H _ _ _ _ Q I rx ry ⟨a, b, rfl, rfl, h⟩
    | _ => exact h.elim
  | ref a =>
    cases y with
    | ref b =>
      rcases h with h | h
      · exact op_cat pins s σ H _ _ _ _ Q I rx ry h
      · exact op_catA pins s σ H _ _ _ _ Q I rx ry h
    | _ => exact h.elim
  | _ => exact h.elim
theorem op_uMul : OpR X (binaryOp .Mult) (uMul X.K) := by
  intro pins s σ H x y u v Q I rx ry h
  cases x with
  | int i =>
    cases y with
    | int j =>
      obtain ⟨c | c, q⟩ := h
      · exact op_mul pins s σ H _ _ _ _ Q I rx ry ⟨i, j, rfl, rfl, c, q⟩
      · exact op_mulW pins s σ H _ _ _ _ Q I rx ry ⟨i, j, rfl, rfl, c, q⟩
    | _ => exact h.elim
  | str a =>
    cases y with
    | int n =>
      obtain ⟨c, q⟩ := h
      obtain ⟨t, rfl⟩ := rx
      obtain ⟨t', rfl⟩ := ry
      exact SB.mul c fun t2 k => ⟨.str _, H, I.tok _, ⟨_, rfl⟩, q⟩
    | _ => exact h.elim
  | ref a =>
    cases y with
    | int n =>
      rcases h with h | h | h
      · exact op_rep pins s σ H _ _ _ _ Q I rx ry h
      · exact op_repT pins s σ H _ _ _ _ Q I rx ry h
      · exact op_repT1 pins s σ H _ _ _ _ Q I rx ry h
    | _ => exact h.elim
  | _ => exact h.elim
theorem op_uDiv : OpR X (binaryOp .FloorDiv) uDiv := by
  intro pins s σ H x y u v Q I rx ry h
  cases x with
  | int i =>
    cases y with
    | int j =>
      obtain ⟨c, q⟩ := h
      obtain ⟨t, rfl⟩ := rx
      obtain ⟨t', rfl⟩ := ry
      exact PyProof.Rows.floordiv_int c.1 ⟨.int _, H, I.tok _, ⟨_, rfl⟩, q⟩ (.inl (PyProof.noPylong_of_log2 c.2))
    | _ => exact h.elim
  | _ => exact h.elim
theorem dec_int (i j : Int) : decide (V.int i = V.int j) = decide (i = j) := decide_eq_decide.mpr ⟨fun e => V.int.inj e, fun e => by rw [e]⟩
theorem dec_str (i j : Str) : decide (V.str i = V.str j) = decide (i = j) := decide_eq_decide.mpr ⟨fun e => V.str.inj e, fun e => by rw [e]⟩
theorem dec_bl (i j : Bool) : decide (V.bl i = V.bl j) = decide (i = j) := decide_eq_decide.mpr ⟨fun e => V.bl.inj e, fun e => by rw [e]⟩
theorem op_uEq (hu : X.A.units + 64 < cLine) : OpR X (compareOp .Eq) (uEq X.K) := by
  intro pins s σ H x y u v Q I rx ry h
  cases x with
  | int i =>
    cases y with
    | int j => exact op_eq pins s σ H _ _ _ _ Q I rx ry ⟨rfl, by rw [dec_int]; exact h⟩
    | _ => exact op_eqD hu pins s σ H _ _ _ _ Q I rx ry h
  | str i =>
    cases y with
    | str j => exact op_eq pins s σ H _ _ _ _ Q I rx ry ⟨rfl, by rw [dec_str]; exact h⟩
    | _ => exact op_eqD hu pins s σ H _ _ _ _ Q I rx ry h
  | bl i =>
    cases y with
    | bl j => exact op_eq pins s σ H _ _ _ _ Q I rx ry ⟨rfl, by rw [dec_bl]; exact h⟩
    | _ => exact op_eqD hu pins s σ H _ _ _ _ Q I rx ry h
  | _ => exact op_eqD hu pins s σ H _ _ _ _ Q I rx ry h
theorem op_uNe (hu : X.A.units + 64 < cLine) : OpR X (compareOp .NotEq) (uNe X.K) := by
  intro pins s σ H x y u v Q I rx ry h
  cases x with
  | int i =>
    cases y with
    | int j => exact op_ne pins s σ H _ _ _ _ Q I rx ry ⟨rfl, by rw [dec_int]; exact h⟩
    | _ => exact op_neD hu pins s σ H _ _ _ _ Q I rx ry h
  | str i =>
    cases y with
    | str j => exact op_ne pins s σ H _ _ _ _ Q I rx ry ⟨rfl, by rw [dec_str]; exact h⟩
    | _ => exact op_neD hu pins s σ H _ _ _ _ Q I rx ry h
  | bl i =>
    cases y with
    | bl j => exact op_ne pins s σ H _ _ _ _ Q I rx ry ⟨rfl, by rw [dec_bl]; exact h⟩
    | _ => exact op_neD hu pins s σ H _ _ _ _ Q I rx ry h
  | _ => exact op_neD hu pins s σ H _ _ _ _ Q I rx ry h
end
end Uv

set_option Elab.async false
set_option linter.all false
set_option maxRecDepth 100000
set_option maxHeartbeats 4000000
namespace Xc
open PySem PySem.W PySem.Calls PyProof.Rows PySem.HandSPX

/-! ### the text of such an __init__: super().__init__(msg); self.f = f; .. -/
/-- self.f = f -/
def sto (f : Str) (q1 q2 q3 q4 : Pos) : Stmt := .Assign [.Attribute (.Name "self" q1) f q2] (.Name f q3) q4
inductive Stos : List Stmt → List Str → Prop
  | nil : Stos [] []
  | cons {ss : List Stmt} {fs : List Str} (f : Str) (q1 q2 q3 q4 : Pos) (r : Stos ss fs) : Stos (sto f q1 q2 q3 q4 :: ss) (f :: fs)
/-- super().__init__(msg) -/
def sup (msg : Str) (k : Nat) (p0 p1 p2 p3 p4 p5 : Pos) : Stmt := .Expr (.Call (.Attribute (.Call (.Name "super" p0) [] [] p1) "__init__" p2) [.Constant (.str msg) k p3] [] p4) p5
def argOf (f : Str) (p : Pos) : Arg := { arg := f, annotation := none, pos := p }
/-- what the written part says of the class at C (named x), its __init__ at fI -/
structure Txt (P : Program) (K : Frag) (mg : Str → Option Value) (x : Str) (fs : List Str) (C : Addr) : Prop where
  gC : mg x = some (.ref C)
  cls : ∃ nm q N bs bm sn sub ab col dd k0 k1 k2 k3 k5, K.lookup C = some (excClassObj nm q C N bs bm true sn sub ab col dd k0 k1 k2 k3 k5 "ValueError.__new__") ∧ refsVE bm = true
  sa : findIn K (.ref C) "__setattr__" = some (some (.builtin "object.__setattr__"))
  ga : findIn K (.ref C) "__getattribute__" = some (some (.builtin "BaseException.__getattribute__"))
  gg : findIn K (.ref C) "__getattr__" = some none
  noF : ∀ f ∈ fs, findIn K (.ref C) f = some none
  kC : keepIn K (.ref C) = true
  exC : subIn K (.ref C) (.type "BaseException") = some true
  veC : subIn K (.ref C) (.type "ValueError") = some true
  tyC : typeIn K (.ref C) = some (.type "type")
  hdC : hasDictIn K C = true
  self : mroIn K C (.ref C) = some true
  up : ks_superIn K C C "__init__" = some (some (.builtin "ValueError.__init__"))
  opq : nsIn K cStatics "thirdparty.any" = some none
  sup : mg "super" = none
  nd : ("self" :: fs : List Str).Nodup
  file : (P.main.scope.names.lookup ("super" : Str)).isSome = false
  fn : ∃ (fI cda cc : Addr) (oc : Value) (od : Option Addr) (osl : Array (Option Value)) (dV kV doc pm : Value) (an : Option Addr) (ct : Value) (msg : Str) (k : Nat) (p0 p1 p2 p3 p4 p5 : Pos) (ss : List Stmt) (ar : Arguments) (sc : Scope) (pa : Arg),
    findIn K (.ref C) "__init__" = some (some (.ref fI)) ∧ typeIn K (.ref fI) = some (.type "function") ∧ Stos ss fs ∧
    K.lookup fI = some ⟨oc, od, .func (ksFn "__init__" (x ++ ".__init__") ar (Xc.sup msg k p0 p1 p2 p3 p4 p5 :: ss) sc dV kV doc pm an (.ref cda) ct cc), osl⟩ ∧
    (ar.posonlyargs ++ ar.args).head? = some pa ∧ pa.arg = "self" ∧
    (∀ us : List Value, us.length = fs.length + 1 → bindArgs (ksFn "__init__" (x ++ ".__init__") ar (Xc.sup msg k p0 p1 p2 p3 p4 p5 :: ss) sc dV kV doc pm an (.ref cda) ct cc) ⟨us, []⟩ = pure ((("self" : Str) :: fs).zip us)) ∧
    (sc.kind = .function ∧ sc.isCoroutine = false ∧ sc.isGenerator = false ∧ (∀ y ∈ sc.names, y.2 ≠ .cell) ∧ sc.names.lookup ("self" : Str) = some .local ∧ (∀ f ∈ fs, sc.names.lookup f = some .local ∧ (f == ("__debug__" : Str)) = false) ∧
      sc.names.lookup ("super" : Str) = some .globalImplicit ∧ sc.names.lookup ("__class__" : Str) = some .free) ∧
    codeIn K (.ref cda) (x ++ ".__init__") = true ∧ (p2.endLine == p4.line) = true ∧
    (∃ ccl cdd vs ccs file tf, K.lookup cda = some ⟨ccl, cdd, .fields vs, ccs⟩ ∧ vs[2]? = some (.str file tf) ∧ ((P.main.file : Str) == file) = true) ∧
    ∃ cl cld csl, K.lookup cc = some ⟨cl, cld, .cell (some (.ref C)), csl⟩

theorem ldm {M : Model} {s : Shared} {env : Env} {m : Str → Option Value} {x : Str} {pos : Pos} {v : Value} {Q : Value → Shared → Prop} {A : Around} {E : Value → Shared → Prop} (hn : s.heap.Ns env.locals m) (hv : m x = some v) (h : Q v s)
    (hk : env.scope.kind = .function) (hl : env.kindOf x = some .local) (hd : (x == ("__debug__" : Str)) = false) : wpAny M A (eval (.Name x pos) env) Q E s := wpAny_Name (wpAny_loadName_local hk hl hn hv h) hd

section
variable {prog : Program} {w : World} {A : Around} {E : Value → Shared → Prop} {h : Heap} {g : Array GenState} {d : Drawn} {t : Nat} {os : OsState}
variable {nm q : Str} {C N : Addr} {bs bm : List Value} {sn : List Str} {sub : List Value} {ab : Bool} {col : Option Bool} {dd : Option Addr} {k0 k1 k2 k3 k5 : Option Value}
/-- the bound built-in __init__ called -/
theorem call_wrap {u e t0 : Addr} {rest : List Value} {Q : Value → Shared → Prop}
    (hC : h.get? C = some (excClassObj nm q C N bs bm true sn sub ab col dd k0 k1 k2 k3 k5 "ValueError.__new__")) (he : h.get? e = some (excO C t0)) (hu : h.get? u = some (kxs_mw "ValueError.__init__" e)) (hrest : rest.length ≤ sizeLine)
    (hq : ∀ h' t1, (∀ b o, b ≠ e → h.get? b = some o → h'.get? b = some o) → h'.get? e = some (excO C t1) → Q .none ⟨h', g, d, t, os⟩) :
    wpAny (model prog w) A (call (.ref u) rest) Q E ⟨h, g, d, t, os⟩ := by
  refine wpAny_call (codeAny_of_tree ?_)
  show wpAny _ A.in1 (callAny (.ref u) ⟨rest, []⟩) _ _ _
  simp only [callAny]
  refine wpAny_bind (wpAny_load hu ?_)
  simp only [kxs_mw, show (Value.type "method-wrapper" == Value.type "method" || Value.type "method-wrapper" == Value.type "builtin_function_or_method" || Value.type "method-wrapper" == Value.type "method-wrapper") = true by decide, if_true]
  refine KFB.if_so (by decide) ?_
  refine wpAny_bind (check_bound_init F.excBase_ValueError.toExcCallFacts hC he rfl ?_)
  refine wpAny_bind (wpAny_pure (wpAny_pure ?_))
  refine ⟨plainId_quiet F.excBase_ValueError.init.plain _, codeAny_builtin F.excBase_ValueError.initEntry ?_⟩
  exact exc_init_tree (cls := .ref C) (t0 := t0) (dv := none) (c2 := .none) (c3 := .none) (b4 := .bool false) he hrest fun h' k e' _ => hq h' _ k e'
end

section
variable {prog : Program} {w : World} {A : Around} {E : Value → Shared → Prop} {s : Shared} {K : Frag} {C : Addr}
/-- the stores behind the first -/
theorem more {env : Env} {x dx t1 : Addr} {Q : Flow → Shared → Prop} {nmC qC : Str} {N : Addr} {bs bm : List Value} {sn : List Str} {sub : List Value} {ab : Bool} {col : Option Bool}
    (hcl : clsIn K C = some { name := nmC, bases := bs, mro := .ref C :: bm, ns := N, qualname := qC, hasDict := true, slotNames := sn, subclasses := sub, abstract := ab, collection := col, hasDel := false }) (hbm : refsVE bm = true)
    (sa : findIn K (.ref C) "__setattr__" = some (some (.builtin "object.__setattr__")))
    (hk : env.scope.kind = .function) (hself : env.kindOf "self" = some .local) {m : Str → Option Value} (ms : m "self" = some (.ref x)) :
    ∀ (ss : List Stmt) (fs : List Str) (us : List Value) (s : Shared) (nl : List Str) (m0 : Str → Option Value) (ps : List (Str × L2.V)) (vs : List L2.V), Stos ss fs → K.In s.heap → (∀ f ∈ fs, findIn K (.ref C) f = some none ∧ env.kindOf f = some .local ∧ (f == ("__debug__" : Str)) = false) →
      fs.map m = us.map some → Paired L2.RelV vs us → s.heap.Ns env.locals m → dx ≠ env.locals → K.lookup dx = none → s.heap.get? x = some { cls := .ref C, dict := some dx, data := .fields #[.ref t1, .none, .none, .none, .bool false, .none] } → s.heap.Ns1 dx m0 → dx ≠ x → Within m0 nl → nl.length + fs.length ≤ 900 →
      (∀ f, L2.RelO (ps.lookup f) (m0 f)) →
      (∀ h' tk mA, (∀ b o, b ≠ dx → s.heap.get? b = some o → h'.get? b = some o) → h'.Ns1 dx mA → (∀ f, L2.RelO (((fs.zip vs).reverse ++ ps).lookup f) (mA f)) → Q .next { s with heap := h', toks := tk }) →
      wpAny (model prog w) A (execs ss env) Q E s := by
  intro ss
  induction ss with
  | nil =>
    intro fs us s nl m0 ps vs S X _ _ _ _ _ _ hx hn _ _ _ rel hq
    cases S
    exact wpAny_execs_nil (hq s.heap s.toks m0 (fun _ _ _ e => e) hn (by simpa using rel))
  | cons st ss ih =>
    intro fs us s nl m0 ps vs S X hf hm hv hns hdl hkd hx hn hdx hw hz rel hq
    cases S with
    | @cons _ fs' f q1 q2 q3 q4 r =>
    match us, vs, hv, hm with
    | u :: us, v :: vs, .cons rv rvs, hm =>
    have hmu : m f = some u := by simpa using congrArg List.head? hm
    have hmr : fs'.map m = us.map some := by simpa using congrArg List.tail hm
    obtain ⟨nof, kf, df⟩ := hf f List.mem_cons_self
    refine wpAny_execs_cons (plainObj_wpAny_Assign_Attribute ?_)
    refine ldm hns hmu (ldm hns ms ?_ hk hself (by decide)) hk kf df
    obtain ⟨oD, esD, epD, hoD, hdD, _⟩ := hn.count hw
    obtain ⟨hp, g, d, t, os⟩ := s
    refine set_plain X (ox := { cls := .ref C, dict := some dx, data := .fields #[.ref t1, .none, .none, .none, .bool false, .none] }) (od := some oD) ⟨hx, rfl, rfl, hoD⟩ sa ?_
    refine PySem.OEX.osa_old X hx hn hw (by simp only [List.length_cons] at hz; omega) hcl (show refsVE (.ref C :: bm) = true from hbm) rfl nof fun h' tk' k hn' => ?_
    refine ih fs' us ⟨h', g, d, tk', os⟩ (f :: nl) _ ((f, v) :: ps) vs r (fun a o e => k a o (fun z => by rw [z, hkd] at e; cases e) (X a o e)) (fun y hy => hf y (List.mem_cons_of_mem _ hy)) hmr rvs ?_ hdl hkd ?_ hn' hdx (Within.cons f u hw) (by simp only [List.length_cons] at hz ⊢; omega) (L2.relO_put rv rel) ?_
    · obtain ⟨o, es, ep, ho, hr⟩ := hns
      exact ⟨o, es, ep, k _ _ (Ne.symm hdl) ho, hr⟩
    · exact k _ _ (Ne.symm hdx) hx
    · intro h2 tk2 mA k2 hn2 rel2
      refine hq h2 tk2 mA (fun b o hb e => k2 b o hb (k b o hb e)) hn2 fun y => ?_
      have z := rel2 y
      simpa [List.append_assoc] using z
/-- a made exception of the class at C with its fields -/
structure Made (h h' : Heap) (e C d : Addr) (fs : List Str) (vs : List L2.V) : Prop where
  keep : ∀ b o, h.get? b = some o → h'.get? b = some o
  new : h.objs.size ≤ e
  obj : ∃ oe vs, h'.get? e = some oe ∧ oe.cls = .ref C ∧ oe.dict = some d ∧ oe.data = .fields vs ∧ vs[1]? = some .none
  dbig : h.objs.size ≤ d
  dne : d ≠ e
  ns : ∃ mA, h'.Ns1 d mA ∧ ∀ f, L2.RelO ((fs.zip vs).reverse.lookup f) (mA f)
theorem lookup_zip : ∀ {ns : List Str} {us : List Value} {i : Nat} {n : Str} {u : Value}, ns.Nodup → ns[i]? = some n → us[i]? = some u → ns.length = us.length → (ns.zip us).lookup n = some u
  | [], _, i, _, _, _, h, _, _ => by simp at h
  | n :: ns, [], i, _, _, _, _, h, _ => by simp at h
  | n :: ns, u :: us, 0, _, _, _, h1, h2, _ => by
    simp at h1 h2
    subst h1 h2
    simp [List.lookup]
  | n :: ns, u :: us, i + 1, n', u', nd, h1, h2, hl => by
    have h1' : ns[i]? = some n' := by simpa using h1
    have nn : n' ≠ n := fun e => by
      have z := (List.nodup_cons.mp nd).1
      rw [← e] at z
      exact z (List.mem_of_getElem? h1')
    have q : (n' == n) = false := by simpa using nn
    show List.lookup n' ((n, u) :: ns.zip us) = some u'
    simp only [List.lookup, q]
    exact lookup_zip (List.nodup_cons.mp nd).2 h1' (by simpa using h2) (by simpa using hl)
theorem lookup_none : ∀ {l : List (Str × Value)} {n : Str}, n ∉ l.map (·.1) → l.lookup n = none
  | [], _, _ => rfl
  | (a, b) :: l, n, h => by
    have q : (n == a) = false := by simpa using fun e : n = a => h (by simp [e])
    simp only [List.lookup, q]
    exact lookup_none fun z => h (by simp [z])
theorem lookup_append : ∀ {l r : List (Str × Value)} {n : Str}, (l ++ r).lookup n = (l.lookup n).or (r.lookup n)
  | [], _, _ => by simp
  | (a, b) :: l, r, n => by
    show List.lookup n ((a, b) :: (l ++ r)) = _
    cases q : (n == a) with
    | true => simp [List.lookup, q]
    | false => simp only [List.lookup, q]; exact lookup_append
theorem lookup_rev {n : Str} : ∀ {l : List (Str × Value)}, (l.map (·.1)).Nodup → l.reverse.lookup n = l.lookup n
  | [], _ => rfl
  | (a, b) :: l, nd => by
    have nd' : a ∉ l.map (·.1) ∧ (l.map (·.1)).Nodup := List.nodup_cons.mp (by simpa using nd)
    rw [List.reverse_cons, lookup_append, lookup_rev nd'.2]
    cases q : (n == a) with
    | true =>
      have e : n = a := by simpa using q
      subst e
      rw [lookup_none nd'.1]
      simp [List.lookup]
    | false => simp [List.lookup, q]
theorem zip_fst : ∀ {ns : List Str} {us : List Value}, ns.length = us.length → (ns.zip us).map (·.1) = ns
  | [], [], _ => rfl
  | [], _ :: _, h => by simp at h
  | _ :: _, [], h => by simp at h
  | n :: ns, u :: us, h => by
    show n :: (ns.zip us).map (·.1) = n :: ns
    rw [zip_fst (by simpa using h)]
theorem bind_at {ns : List Str} {us : List Value} {i : Nat} {n : Str} {u : Value} (nd : ns.Nodup) (h1 : ns[i]? = some n) (h2 : us[i]? = some u) (hl : ns.length = us.length) : (ns.zip us).reverse.lookup n = some u := by
  rw [lookup_rev (by rw [zip_fst hl]; exact nd)]
  exact lookup_zip nd h1 h2 hl

theorem made {x : Str} {fs : List Str} {P : Program} {mg mb : Str → Option Value} {R : Result → Shared → Prop} {us : List Value} {vs : List L2.V} (T : Txt P K mg x fs C) (X : K.In s.heap) (hlim : s.heap.NoLimit) (hg : s.heap.Ns mainGlobals mg) (hb : s.heap.Ns builtinsNs mb)
    (mbs : mb "super" = some (.type "super")) (hroom : A.depth + 1 < recursionLimit) (hl : us.length = fs.length) (r : Paired L2.RelV vs us) (hne : fs ≠ []) (hz : fs.length ≤ 100)
    (hq : ∀ h' tk e d, Made s.heap h' e C d fs vs → R (.ok (.ret (.ref e))) { s with heap := h', toks := tk }) : codeAny (model P w) A (.call (.ref C) ⟨us, []⟩) R s := by
  obtain ⟨nm, q, N, bs, bm, sn, sub, ab, col, dd, k0, k1, k2, k3, k5, hC, hbm⟩ := T.cls
  obtain ⟨fI, cda, cc, oc, od, osl, dV, kV, doc, pm, an, ct, msg, kk, p0, p1, p2, p3, p4, p5, ss, ar, sc, pa, iC, tC, hss, ho, hpa, hpn, hbind, ⟨sk, sco, sge, snc, sself, sfs, ssup, scls⟩, hcd, hli, ⟨ccl, cdd, cvs, ccs, file, tf, lcd, hfi, hfe⟩, cl, cld, csl, lcc⟩ := T.fn
  have hcl : clsIn K C = some { name := nm, bases := bs, mro := .ref C :: bm, ns := N, qualname := q, hasDict := true, slotNames := sn, subclasses := sub, abstract := ab, collection := col, hasDel := false } := by unfold clsIn; rw [hC] <;> rfl
  have husz : us.length ≤ sizeLine := by rw [hl, sizeLine_eq]; omega
  obtain ⟨hp, g, dr, tk, os⟩ := s
  have k : ∀ b o, hp.get? b = some o → ((hp.push (kdv_tup us)).push (excO C hp.objs.size)).get? b = some o := fun b o e => Heap.get?_push_of_some _ (Heap.get?_push_of_some _ e)
  have hget : ((hp.push (kdv_tup us)).push (excO C hp.objs.size)).get? (hp.objs.size + 1) = some (excO C hp.objs.size) := by heap_get
  have hnx : ∀ b, hp.objs.size ≤ b → K.lookup b = none := fun b hb => by
    cases e : K.lookup b with
    | none => rfl
    | some o => exact absurd (Nat.lt_of_lt_of_le (Heap.lt_size (X _ _ e)) hb) (Nat.lt_irrefl _)
  refine call_own F.excBase_ValueError (fun Y => refsVE_contains Y bm hbm) (X _ _ hC) (looks_findIn X iC) (fun self => bind_fn X self tC) husz ?_
  -- into __init__
  obtain ⟨e, he⟩ : ∃ e, e = hp.objs.size + 1 := ⟨_, rfl⟩
  rw [← he] at hget ⊢
  obtain ⟨hA, hAe⟩ : ∃ hA, hA = (hp.push (kdv_tup us)).push (excO C hp.objs.size) := ⟨_, rfl⟩
  rw [← hAe] at hget ⊢
  have k : ∀ b o, hp.get? b = some o → hA.get? b = some o := by rw [hAe]; exact k
  have XA : K.In hA := fun a o z => k a o (X a o z)
  have eb : hp.objs.size ≤ e := by rw [he]; exact Nat.le_succ _
  have hsz : hA.objs.size = hp.objs.size + 2 := by rw [hAe, Heap.size_push, Heap.size_push]
  have ulen : (Value.ref e :: us).length = fs.length + 1 := by simp [hl]
  have nlen : (("self" : Str) :: fs).length = (Value.ref e :: us).length := by simp [hl]
  refine ks_codeAny_call_defAt (body := Xc.sup msg kk p0 p1 p2 p3 p4 p5 :: ss) (binds := (("self" : Str) :: fs).zip (Value.ref e :: us)) ?_ (XA _ _ ho) rfl (hlim.keeps k) (codeRec_of XA hcd) rfl (BindsTo.of_eq (hbind _ ulen)) snc ?_ (fun h0 hns0 k0 => ?_) sco sge sk
  · show A.depth + 1 < recursionLimit
    exact hroom
  · intro y hy
    have z : y.1 ∈ ("self" : Str) :: fs := by
      have z2 : y.1 ∈ ((("self" : Str) :: fs).zip (Value.ref e :: us)).map (·.1) := List.mem_map_of_mem hy
      rw [zip_fst nlen] at z2
      exact z2
    rcases List.mem_cons.mp z with z | z
    · rw [z]; exact sself
    · exact (sfs _ z).1
  obtain ⟨env, henv⟩ : ∃ env, env = callEnv (ksFn "__init__" (x ++ ".__init__") ar (Xc.sup msg kk p0 p1 p2 p3 p4 p5 :: ss) sc dV kV doc pm an (.ref cda) ct cc) hA.objs.size fI := ⟨_, rfl⟩
  rw [← henv]
  have eks : env.kindOf "super" = some .globalImplicit := by rw [henv]; exact ssup
  have ekc : env.kindOf "__class__" = some .free := by rw [henv]; exact scls
  have eself : env.kindOf "self" = some .local := by rw [henv]; exact sself
  have ekf : ∀ f ∈ fs, env.kindOf f = some .local := fun f hf => by rw [henv]; exact (sfs f hf).1
  have esk : env.scope.kind = .function := by rw [henv]; exact sk
  have eloc : env.locals = hA.objs.size := by rw [henv]; rfl
  have efu : env.func = some fI := by rw [henv]; rfl
  have eco : env.code = .ref cda := by rw [henv]; rfl
  have egl : env.globals = mainGlobals := by rw [henv]; rfl
  have ebn : env.builtins = builtinsNs := by rw [henv]; rfl
  have ecl : env.cells.lookup ("__class__" : Str) = some cc := by rw [henv]; rfl
  have X0 : K.In h0 := fun a o z => k0 a o (XA a o z)
  have kk0 : ∀ b o, hp.get? b = some o → h0.get? b = some o := fun b o z => k0 b o (k b o z)
  have he0 := k0 _ _ hget
  obtain ⟨m, hm⟩ : ∃ m : Str → Option Value, m = fun y => ((("self" : Str) :: fs).zip (Value.ref e :: us)).reverse.lookup y := ⟨_, rfl⟩
  have hns0 : h0.Ns env.locals m := by rw [hm, eloc]; exact hns0
  have mself : m "self" = some (.ref e) := by
    rw [hm]
    exact bind_at (i := 0) T.nd rfl rfl nlen
  have mfs : fs.map m = us.map some := by
    refine List.ext_getElem? fun i => ?_
    rw [List.getElem?_map, List.getElem?_map]
    cases h1 : fs[i]? with
    | none =>
      have z : us[i]? = none := List.getElem?_eq_none_iff.mpr (by have := List.getElem?_eq_none_iff.mp h1; omega)
      rw [z]
      rfl
    | some f =>
      have hi := (List.getElem?_eq_some_iff.mp h1).1
      have z : us[i]? = some us[i] := List.getElem?_eq_getElem (by omega)
      rw [z]
      show some (m f) = some (some us[i])
      rw [hm]
      exact congrArg some (bind_at (i := i + 1) T.nd (by simpa using h1) (by simpa using z) nlen)
  refine ks_wpAt_execs_cons (ks_wpAt_Expr_any ?_ (by rw [henv]; show interactive _ = false; simp [interactive, callEnv, newEnv, sk]) rfl)
  have hev : eval (.Call (.Attribute (.Call (.Name "super" p0) [] [] p1) "__init__" p2) [.Constant (.str msg) kk p3] [] p4) env = (do
      let ov ← attributeBase (.Call (.Name "super" p0) [] [] p1) "__init__" env (eval (.Call (.Name "super" p0) [] [] p1) env)
      standAt p2.atName
      let (f, first) ← holding [ov] (getMethod ov "__init__" (L2.plainOf (.Call (.Name "super" p0) [] [] p1) env))
      callWith p4 f first (backTo p4 (starEach [.Constant (.str msg) kk p3] env)) []) := by
    show (do
      let ov ← attributeBase (.Call (.Name "super" p0) [] [] p1) "__init__" env (eval (.Call (.Name "super" p0) [] [] p1) env)
      standAt p2.atName
      methodCall (.Call (.Name "super" p0) [] [] p1) "__init__" p2 p4 env ov 1 (backTo p4 (starEach [.Constant (.str msg) kk p3] env)) (backToKw p4 (keywordEach [] env))) = _
    refine congrArg _ (funext fun ov => ?_)
    refine congrArg _ (funext fun _ => ?_)
    exact L2.mcall_line rfl hli
  refine ks_wpAt_MethodCall ?_ hev
  refine ks_wpAt_super_base eks ekc (by decide) efu (X0 _ _ ho) rfl hpa eco (X0 _ _ lcd) rfl hfi hfe T.file ?_
  refine ks_loadName_global esk eks (loadGlobal_builtin (by rw [egl]; exact hg.keeps kk0) T.sup (by rw [ebn]; exact hb.keeps kk0) mbs ⟨rfl, ?_⟩)
  refine wpAny_loadName_free esk ekc ecl ⟨_, X0 _ _ lcc, rfl⟩ ?_
  rw [hpn]
  refine wpAny_loadName_local esk eself hns0 mself ?_
  have oC := X0 _ _ hC
  refine ks_wpAny_isType_cls oC rfl ⟨rfl, ?_⟩
  refine ks_wpAny_call_super oC rfl he0 rfl (fun c z => by cases z) (looks_mroIn X0 T.self) (fun h1 eso k1 => ?_)
  have X1 : K.In h1 := fun a o z => k1 a o (X0 a o z)
  have he1 := k1 _ _ he0
  have I1 : InstAt h1 e (excO C hp.objs.size) C none := ⟨he1, rfl, rfl, trivial⟩
  have hf : alongIn K "__init__" ((Value.ref C :: bm).dropWhile (· != .ref C) |>.drop 1) = some (some (.builtin "ValueError.__init__")) := by
    have z := T.up
    unfold ks_superIn at z
    rw [hcl] at z
    exact z
  have neC : e ≠ C := fun z => by
    have y := hnx e eb
    rw [z, hC] at y
    cases y
  refine kxs_getMethod kxs_ValueError eso (looks_opaque X1 T.opq) ((looks_clsIn X1 hcl).andThen .now) rfl X1 hf (I1.type.andThen (looks_subIn X1 T.veC)) neC (by decide) ?_
  obtain ⟨u, hu⟩ : ∃ u, u = h1.objs.size := ⟨_, rfl⟩
  have k2 : ∀ b o, h1.get? b = some o → (h1.push (kxs_mw "ValueError.__init__" e)).get? b = some o := fun b o z => Heap.get?_push_of_some _ z
  have hgu : (h1.push (kxs_mw "ValueError.__init__" e)).get? u = some (kxs_mw "ValueError.__init__" e) := by rw [hu]; exact Heap.get?_push_at rfl rfl
  show wpAny _ _ (callWith p4 (.ref h1.objs.size) [] _ []) _ _ _
  rw [← hu]
  obtain ⟨h2, hh2⟩ : ∃ h2, h2 = h1.push (kxs_mw "ValueError.__init__" e) := ⟨_, rfl⟩
  rw [← hh2] at hgu k2 ⊢
  refine kxs_callWith (i := "ValueError.__init__") (x := e) rfl (evalArgs_plain ?_)
  refine spliced_more (e := .Constant (.str msg) kk p3) (rest := []) ?_
  refine Calls.Constant_str (spliced_none ⟨hgu, ?_⟩)
  have k02 : ∀ b o, h0.get? b = some o → h2.get? b = some o := fun b o z => k2 b o (k1 b o z)
  have kp2 : ∀ b o, hp.get? b = some o → h2.get? b = some o := fun b o z => k02 b o (kk0 b o z)
  refine call_wrap (kp2 _ _ (X _ _ hC)) (k2 _ _ he1) hgu (by show 1 ≤ sizeLine; rw [sizeLine_eq]; omega) fun h3 t1 k3 he3 => ?_
  refine wpAt_of_wpAny ?_
  -- the stores
  have ne3 : ∀ {b : Addr} {o : Obj}, hp.get? b = some o → b ≠ e := fun {b o} z => Nat.ne_of_lt (Nat.lt_of_lt_of_le (Heap.lt_size z) eb)
  have kp3 : ∀ b o, hp.get? b = some o → h3.get? b = some o := fun b o z => k3 b o (ne3 z) (kp2 b o z)
  have X3 : K.In h3 := fun a o z => kp3 a o (X a o z)
  have neL : env.locals ≠ e := by
    rw [eloc, hsz, he]
    exact Nat.ne_of_gt (Nat.lt_succ_self _)
  have hns3 : h3.Ns env.locals m := by
    obtain ⟨o, es, ep, hoL, hr⟩ := hns0
    exact ⟨o, es, ep, k3 _ _ neL (k02 _ _ hoL), hr⟩
  match fs, us, vs, hss, hne, mfs, r, hl, hz, sfs, ekf, T, hq with
  | [], _, _, _, hne, _, _, _, _, _, _, _, _ => exact absurd rfl hne
  | f :: fs', [], _, _, _, _, _, hl, _, _, _, _, _ => cases hl
  | f :: fs', u0 :: us', v0 :: vs', .cons _ q1 q2 q3 q4 hss', _, mfs, .cons rv rvs, hl, hz, sfs, ekf, T, hq =>
  have hmu : m f = some u0 := by simpa using congrArg List.head? mfs
  have hmr : fs'.map m = us'.map some := by simpa using congrArg List.tail mfs
  refine wpAny_execs_cons (plainObj_wpAny_Assign_Attribute ?_)
  refine ldm hns3 hmu (ldm hns3 mself ?_ esk eself (by decide)) esk (ekf f List.mem_cons_self) (sfs f List.mem_cons_self).2
  refine set_plain X3 (ox := excO C t1) (od := none) ⟨he3, rfl, rfl, trivial⟩ T.sa ?_
  refine exc_osa X3 he3 hcl (show refsVE (.ref C :: bm) = true from hbm) rfl (T.noF f List.mem_cons_self) fun h4 tk4 dx k4 dn dne hx4 hn4 => ?_
  have d3 : ∀ {b : Addr} {o : Obj}, h3.get? b = some o → b ≠ dx := fun {b o} z => Nat.ne_of_lt (Nat.lt_of_lt_of_le (Heap.lt_size z) dn)
  have kp4 : ∀ b o, hp.get? b = some o → h4.get? b = some o := fun b o z => k4 b o (ne3 z) (kp3 b o z)
  have hdL : dx ≠ env.locals := by
    obtain ⟨o, es, ep, hoL, hr⟩ := hns3
    exact Ne.symm (d3 hoL)
  have hbig : hp.objs.size ≤ dx := by
    refine Nat.le_of_not_lt fun z => ?_
    have z2 : hA.objs.size < h3.objs.size := by
      obtain ⟨o, es, ep, hoL, hr⟩ := hns3
      rw [← eloc]
      exact Heap.lt_size hoL
    have dn' : h3.objs.size ≤ dx := dn
    rw [hsz] at z2
    clear hbind hq dn
    omega
  refine more (nmC := nm) (qC := q) (N := N) (bs := bs) (bm := bm) (t1 := t1) (x := e) (dx := dx) hcl hbm T.sa esk eself mself _ fs' us' _ [f] _ [(f, v0)] vs' hss' (fun a o z => kp4 a o (X a o z)) (fun y hy => ⟨T.noF y (List.mem_cons_of_mem _ hy), ekf y (List.mem_cons_of_mem _ hy), (sfs y (List.mem_cons_of_mem _ hy)).2⟩) hmr rvs ?_ hdL (hnx _ hbig) hx4 hn4 dne ?_ ?_ (L2.relO_put (fs := []) (mA := fun _ => none) rv fun _ => True.intro) ?_
  · obtain ⟨o, es, ep, hoL, hr⟩ := hns3
    exact ⟨o, es, ep, k4 _ _ neL hoL, hr⟩
  · intro y hy
    by_cases z : y = f
    · rw [z]; exact List.mem_singleton_self f
    · exact absurd (if_neg z) hy
  · simp only [List.length_cons] at hz ⊢
    simp only [List.length_nil]
    omega
  · intro h5 tk5 mA k5 hn5 rel
    have kk5 : ∀ b o, hp.get? b = some o → h5.get? b = some o := fun b o z => k5 b o (Nat.ne_of_lt (Nat.lt_of_lt_of_le (Heap.lt_size z) hbig)) (kp4 b o z)
    refine ⟨rfl, hq h5 tk5 e dx ⟨kk5, eb, ⟨_, _, k5 _ _ (Ne.symm dne) hx4, rfl, rfl, rfl, rfl⟩, hbig, dne, mA, hn5, fun y => ?_⟩⟩
    have z := rel y
    simpa using z
end
end Xc

set_option Elab.async false
set_option linter.all false
set_option maxRecDepth 100000
set_option maxHeartbeats 4000000
namespace Uv
open PySem PySem.Spec L2
open PyProof.Rows hiding St

/-! ### an exception of such a class made and raised -/
/-- C(e, ..): its fields by name, the last first -/
def tMkX (C : Addr) (fs : List Str) (ta : TA) : L2.St → Hp → XK → Prop := fun σ H Q => ta σ H fun vs H1 => vs.length = fs.length ∧ ∀ d, H1 d = none → Q (.ref C) (some d) (upd H1 d (.xd (fs.zip vs).reverse))
section
variable {X : Cx} {C : Addr} {x : Str} {fs : List Str}
theorem pmk_x {e : Expr} {es : List Expr} {ta : TA} {p pos : Pos} {k : Nat} (T : Xc.Txt X.prog X.K X.mg x fs C) (hr : Room k X.A) (hne : fs ≠ []) (hz : fs.length ≤ 100) (ha : PA X (e :: es) ta) (hg : Gl X x := by rfl) (hdb : (x == ("__debug__" : Str)) = false := by decide)
    (he : starEach (e :: es) X.env = (false, eval e X.env) :: starEach es X.env := by rfl) (hpl : (backTo pos (starEach es X.env)).any (·.1) = false := by rfl) : PMk X (.Call (.Name x p) (e :: es) [] pos) (tMkX C fs ta) := by
  intro pins s σ H Q I h
  refine wpAny_Call_Name_kw (ld_glob I hg T.gC ?_ hdb)
  refine PySem.W.callWith_K (h₀ := X.base) I.ok.mod.kin T.kC (thn (ha.run pos pins s σ H _ I h) fun us s1 hh => ?_) he hpl
  obtain ⟨vs, H1, I1, r1, hl, q1⟩ := hh
  refine ⟨I1.kIn, ?_⟩
  show wpAny _ _ (call (.ref C) us) _ _ _
  obtain ⟨mb, b1, b2⟩ := I1.mod.blt
  have hlim := I1.nolimit
  have hg' := I1.mod.glob.keeps I1.bk
  have hb' := b1.keeps I1.bk
  obtain ⟨hp, g, dr, tk, os⟩ := s1
  refine wpAny_call (Xc.made T I1.kIn hlim hg' hb' ((b2 "super" (by decide)).trans (by decide +kernel)) (by have := hr.dp; omega) (by rw [← hl]; exact (Paired.length r1).symm) r1 hne hz fun h' tk' e d M => ?_)
  show MkP X pins σ Q (.ref e) ⟨h', g, dr, tk', os⟩
  obtain ⟨oe, fv, hoe, hc, hd, hdat, h1⟩ := M.obj
  obtain ⟨mA, hns, rel⟩ := M.ns
  obtain ⟨G', g1, g2⟩ := restrict h' fun b => decide (b ≠ e)
  have gk : ∀ b, b ≠ e → G'.get? b = h'.get? b := fun b hb => g1 b (decide_eq_true hb)
  have ge : G'.get? e = none := g2 e (by simp)
  have old : ∀ b o, hp.get? b = some o → G'.get? b = some o := fun b o q => (gk b (Nat.ne_of_lt (Nat.lt_of_lt_of_le (Heap.lt_size q) M.new))).trans (M.keep b o q)
  have ob : ObjOk X.prog X.w (upd H1 d (.xd (fs.zip vs).reverse)) G' d (.xd (fs.zip vs).reverse) := ⟨mA, hns.at (fun o q => (gk d M.dne).trans q), rel⟩
  have J : Inv X pins σ (upd H1 d (.xd (fs.zip vs).reverse)) ⟨G', g, dr, tk', os⟩ := I1.laid (t' := tk') old M.dbig ob
  refine ⟨e, oe, fv, ⟨G', g, dr, tk', os⟩, _, .ref C, some d, rfl, J, fun b o q => ?_, ge, hoe, ⟨hc, hd⟩, hdat, h1, ?_, rfl, I1.bare, raises_own T.exC T.tyC, q1 d (I1.hok.fresh M.dbig)⟩
  · by_cases hb : b = e
    · have q' : G'.get? b = some o := q
      rw [hb, ge] at q'; cases q'
    · exact (gk b hb).symm.trans q
  · rw [upd_ne (Ne.symm M.dne)]
    exact I1.hok.fresh M.new
/-- raise C(e, ..) -/
def tRaiseX (C : Addr) (fs : List Str) (W : WX) (ta : TA) : TS := fun _ σ H => tMkX C fs ta σ H fun cls d H' => W cls d σ H'
theorem ps_raiseX {e : Expr} {es : List Expr} {ta : TA} {W : WX} {p pos pos2 : Pos} {k : Nat} (hc : X.calm = true) (T : Xc.Txt X.prog X.K X.mg x fs C) (hr : Room k X.A) (tk : Takes X W) (hne : fs ≠ []) (hz : fs.length ≤ 100) (ha : PA X (e :: es) ta) (hg : Gl X x := by rfl) (hdb : (x == ("__debug__" : Str)) = false := by decide)
    (he : starEach (e :: es) X.env = (false, eval e X.env) :: starEach es X.env := by rfl) (hpl : (backTo pos (starEach es X.env)).any (·.1) = false := by rfl) :
    PS X (.Raise (some (.Call (.Name x p) (e :: es) [] pos)) none pos2) (tRaiseX C fs W ta) := ps_raise hc tk (pmk_x T hr hne hz ha hg hdb he hpl)
end

/-! ### isinstance(e, c), e the exception that a suite holds -/
end Uv
namespace Xc
open PySem PySem.Spec PySem.Calls PySem.W PyProof.Rows
section
variable {prog : Program} {w : World} {A : Around} {E : Value → Shared → Prop} {s : Shared} {K : Frag} {x D : Addr} {ox : Obj} {od : Option Obj}
theorem find_cls {C : Addr} {name : Str} {a g : Value} (hc : (clsIn K C).isSome = true) (ha : findIn K (.ref C) name = some (some a)) (hg : specialIn K a "__get__" = some (some g)) (ht : takesIn K a = some true) : findObj K C od name = some (.bind g a) := by
  obtain ⟨cd, hc⟩ := Option.isSome_iff_exists.mp hc
  unfold findObj
  rw [hc, Option.bind_some, ha, Option.bind_some]
  simp [hg, ht]
/-- e.__class__ -/
theorem get_cls {Q : Option Value → Shared → Prop} (hga : findIn K (.ref D) "__getattribute__" = some (some (.builtin "BaseException.__getattribute__"))) (hgt : findIn K (.ref D) "__getattr__" = some none) (hsub : subIn K (.ref D) (.type "BaseException") = some true)
    (hdct : hasDictIn K D = true) (ha : findIn K (.ref D) "__class__" = some (some (.builtin "object.__class__"))) (hn : specialIn K (.builtin "object.__class__") "__get__" = some (some (.builtin "getset_descriptor.__get__"))) (htk : takesIn K (.builtin "object.__class__") = some true)
    (hm : mroIn K D (.type "object") = some true) (X : K.In s.heap) (I : InstAt s.heap x ox D od) (h : Q (some (.ref D)) { s with toks := s.toks + 1 }) : wpAny (model prog w) A (getAttr? (.ref x) "__class__") Q E s := by
  have hf : findObj K D od "__class__" = some (.bind (.builtin "getset_descriptor.__get__") (.builtin "object.__class__")) := find_cls (by obtain ⟨cd, hc, _⟩ := any_some hdct; rw [hc]; rfl) ha hn htk
  obtain ⟨hp, g, d, t, os⟩ := s
  have l0 := I.type (M := model prog w)
  have l1 := looks_findIn (M := model prog w) X hga
  have l2 := looks_findIn (M := model prog w) X hgt
  have l3 := looks_find (M := model prog w) X I hf
  have sub : Looks (model prog w) hp (isInstance (.ref x) (.type "BaseException")) true := l0.andThen (looks_subIn X hsub)
  have x0 : (false && onTheHeap (Value.builtin "BaseException.__getattribute__")) = false := rfl
  have x2 : (Value.builtin "BaseException.__getattribute__" == Value.builtin "object.__getattribute__") = false := by decide +kernel
  have x1 : (onTheHeap (Value.ref D) && Value.builtin "BaseException.__getattribute__" == Value.builtin "object.__getattribute__") = false := by rw [x2]; rfl
  unfold getAttr? getAttrBy? getAttrBy
  refine wpAny_bind (wpAny_mkText (wpAny_bind (wpAny_attempt (wpAny_holding (wpAny_bind (l0.at (wpAny_bind (l1.at ?_))))))))
  show wpAny _ _ (if (onTheHeap (Value.ref D) && Value.builtin "BaseException.__getattribute__" == Value.builtin "object.__getattribute__") = true then _ else _) _ _ _
  rw [x1, if_neg Bool.false_ne_true]
  unfold getAttrByItsOwn hookBefore
  refine wpAny_bind ?_
  rw [if_pos (show onTheHeap (Value.ref D) = true from rfl)]
  refine l2.at ?_
  refine wpAny_bind (wpAny_attempt (wpAny_holding ?_))
  unfold callGetattribute
  rw [x0, if_neg Bool.false_ne_true]
  unfold boundAndCalled
  rw [PySem.F.excAttr_ValueError.ga.bind (.ref x)]
  refine wpAny_bind (wpAny_pure ?_)
  show wpAny _ _ (call (.builtin "BaseException.__getattribute__") [.ref x, .str "__class__" t]) _ _ _
  refine wpAny_call (codeAny_call_builtin PySem.F.excAttr_ValueError.ga.plain PySem.F.entry_bexc_ga ?_)
  refine @check_slot (model prog w) _ _ ⟨hp, g, d, t + 1, os⟩ "BaseException.__getattribute__" "BaseException" "__getattribute__" (.ref x) [.str "__class__" t] [] _ (by decide +kernel) (by decide +kernel) sub (PySem.F.args_bexc_ga (.ref x) (.str "__class__" t)) ?_
  unfold Builtin.«object.__getattribute__»
  refine wpAny_bind (wpAny_of_eq (a := ((Value.ref x : Value), [Value.str "__class__" t])) (by first | rfl | (simp only [slotArgs]; rfl)) ?_)
  refine wpAny_bind (wpAny_pure (wpAny_bind (l0.at (wpAny_bind (l3.at ?_)))))
  show wpAny _ _ (holding [Value.builtin "object.__class__"] (call (.builtin "getset_descriptor.__get__") [.builtin "object.__class__", .ref x, .ref D]) >>= ret) _ _ _
  refine wpAny_bind (wpAny_holding (wpAny_call (class_get (s := ⟨hp, g, d, t + 1, os⟩) (ox := ox) (od := od) X I hm ?_)))
  refine wpAny_pure ?_
  show wpAny _ _ (handedOut (.ref D)) _ _ _
  rw [handedOut_of (v := .ref D) rfl]
  first
    | exact wpAny_pure (wpAny_pure h)
    | exact wpAny_pure h
    | exact wpAny_pure (wpAny_bind (wpAny_pure (wpAny_pure h)))
theorem kitx (hga : findIn K (.ref D) "__getattribute__" = some (some (.builtin "BaseException.__getattribute__"))) (hgt : findIn K (.ref D) "__getattr__" = some none) (hsub : subIn K (.ref D) (.type "BaseException") = some true) (hdct : hasDictIn K D = true)
    (ha : findIn K (.ref D) "__class__" = some (some (.builtin "object.__class__"))) (hn : specialIn K (.builtin "object.__class__") "__get__" = some (some (.builtin "getset_descriptor.__get__"))) (htk : takesIn K (.builtin "object.__class__") = some true) (hm : mroIn K D (.type "object") = some true) :
    KitX K (.ref x) (.ref D) (fun h => InstAt h x ox D od) where
  ty := fun _ _ _ I => I.type
  it := fun _ _ X _ => by
    obtain ⟨cdD, hcD, _⟩ := any_some hdct
    unfold clsIn at hcD
    split at hcD
    · rename_i c' d' cd' sl' ho
      intro A' Q' E' s' k q
      unfold isType loadHead
      exact wpAny_bind (wpAny_loadPart (k _ _ (X _ _ ho)) (wpAny_pure q))
    · cases hcD
  ne := fun h tp dd its n sl X htp => by
    obtain ⟨cdD, hcD, _⟩ := any_some hdct
    refine Bool.eq_false_iff.mpr fun q => ?_
    have e : D = tp := Value.ref.inj (beq_iff_eq.mp q)
    subst e
    unfold clsIn at hcD
    split at hcD
    · rename_i c' d' cd' sl' ho
      have z := (X _ _ ho).symm.trans htp
      cases z
    · cases hcD
  ca := fun X I k => get_cls hga hgt hsub hdct ha hn htk hm X I k
end
end Xc
namespace Uv
open PySem PySem.Spec L2
open PyProof.Rows hiding St
/-- isinstance(e, c) and isinstance(e, (c, ..)), e held at a of the class D with its dict at d -/
def rIsX (K : PySem.W.Frag) (a : Addr) (cls : Value) (d : Option Addr) : List V → Hp → VK → Prop := fun xs H Q => ∃ (D dd : Addr) (fs : List (Str × V)), cls = .ref D ∧ d = some dd ∧ H dd = some (.xd fs) ∧ ExcC K D ∧
  ((∃ (c : V) (cv : Value) (b : Bool), xs = [.ref a, c] ∧ ClsV c cv ∧ PySem.W.kitOne K (.ref D) cv = some b ∧ Q (.bl b) H) ∨
    ∃ (tp : Addr) (cs : List V) (us : List Value) (b : Bool), xs = [.ref a, .ref tp] ∧ H tp = some (.tup cs) ∧ Paired ClsV cs us ∧ PySem.W.kitAny K (.ref D) us = some b ∧ Q (.bl b) H)
theorem call_isX {X : Cx} {a : Addr} {oe : Obj} {cls : Value} {d : Option Addr} {pn : List (Addr × Obj)} (hz : Zc cls d oe) (hf : ∃ vs, oe.data = .fields vs) : CallR (X.suite a ((a, oe) :: pn)) (.builtin "isinstance") (rIsX X.K a cls d) := by
  intro pins s σ H xs us Q I r h
  obtain ⟨D, dd, fs, rfl, rfl, hdd, C, h⟩ := h
  obtain ⟨hget, _⟩ := I.pin (a, oe) (List.mem_append.mpr (.inl List.mem_cons_self))
  obtain ⟨vs, hv⟩ := hf
  obtain ⟨mA, hns, _⟩ := (show ObjOk X.prog X.w H s.heap dd (.xd fs) from I.hok dd _ hdd)
  obtain ⟨od, es, ep, hod, _⟩ := hns
  have J : PySem.W.InstAt s.heap a oe D (some od) := by
    obtain ⟨oc, odd, oda, osl⟩ := oe
    obtain ⟨h1, h2⟩ := hz
    dsimp only at h1 h2 hv
    subst h1 h2 hv
    exact ⟨hget, rfl, rfl, hod⟩
  have KX := Xc.kitx (x := a) (ox := oe) (od := some od) C.hg C.hk C.hs C.hd C.ha C.hn C.ht C.hm
  rcases h with ⟨c, cv, b, rfl, hc, e, q⟩ | ⟨tp, cs, ws, b, rfl, hT, hc, e, q⟩
  · obtain ⟨u1, u2, rfl, r1, r2⟩ := vals2 r
    cases (show u1 = Value.ref a from r1)
    have ec := hc.eq r2
    subst ec
    exact PySem.W.kia_one KX I.kIn J e (fun z => nomatch z) fun tk => ⟨.bl b, H, I.kept (t' := tk) fun _ _ z => z, rfl, q⟩
  · obtain ⟨u1, u2, rfl, r1, r2⟩ := vals2 r
    cases (show u1 = Value.ref a from r1)
    cases (show u2 = Value.ref tp from r2)
    obtain ⟨_, its, rv, o, h1, h2, n, h3⟩ := (show ObjOk X.prog X.w H s.heap tp (.tup cs) from I.hok tp _ hT)
    have e3 := ClsV.all hc rv
    subst e3
    obtain ⟨oc, odd, dt, sl⟩ := o
    simp only at h2 h3
    subst h2 h3
    exact PySem.W.kia_tup KX I.kIn J h1 e (fun z => nomatch z) fun tk => ⟨.bl b, H, I.tok tk, rfl, q⟩
end Uv

set_option Elab.async false
set_option linter.all false
set_option maxRecDepth 100000
set_option maxHeartbeats 4000000
namespace Uv
open PySem PySem.Spec L2
open PyProof.Rows hiding St

/-! ### try: body / except c as n: .. / except c2: .. -/
/-- one clause: its class, the slot of its name (if it has one), its suite -/
structure Cl where
  c : Value
  i : Option Nat
  ts : Addr → Value → Option Addr → TS
def setO (σ : L2.St) (i : Option Nat) (v : Option V) : L2.St := match i with
  | some i => σ.set i v
  | none => σ
def endO (D : Ends) (i : Option Nat) : Ends := match i with
  | some _ => { nx := fun σ' H' => D.nx (setO σ' i none) H', rt := D.rt, bk := fun σ' H' => D.bk (setO σ' i none) H', ct := fun σ' H' => D.ct (setO σ' i none) H' }
  | none => D
/-- what the clauses wish, one after the other -/
def wCl (K : PySem.W.Frag) (Wout : WX) (D : Ends) : List Cl → WX
  | [] => Wout
  | q :: r => fun cls d σ H => ∃ b, PySem.W.exmOne K cls q.c = some b ∧ (b = true → ∀ a, H a = none → q.ts a cls d (endO D q.i) (setO σ q.i (some (.ref a))) H) ∧ (b = false → wCl K Wout D r cls d σ H)
inductive ClOk (X : Cx) : List ExceptHandler → List Cl → Prop
  | nil : ClOk X [] []
  | bare {x : Str} {c : Value} {ts : Addr → Value → Option Addr → TS} {b0 : Stmt} {suite : List Stmt} {np pos' : Pos} {hds : List ExceptHandler} {l : List Cl} (hc : Names X x c)
      (hsu : ∀ (a : Addr) (oe : Obj) (cls : Value) (d : Option Addr) (pn : List (Addr × Obj)), Zc cls d oe → (∃ vs, oe.data = .fields vs) → PSs (X.suite a ((a, oe) :: pn)) (b0 :: suite) (ts a cls d)) (r : ClOk X hds l) :
      ClOk X (.ExceptHandler (some (.Name x np)) none (b0 :: suite) pos' :: hds) (⟨c, none, ts⟩ :: l)
  | named {x n : Str} {i : Nat} {c : Value} {ts : Addr → Value → Option Addr → TS} {b0 : Stmt} {suite : List Stmt} {np pos' : Pos} {hds : List ExceptHandler} {l : List Cl} (hc : Names X x c) (hN : X.N.Nodup) (hi : X.N[i]? = some n) (hln : X.env.kindOf n = some .local)
      (hsu : ∀ (a : Addr) (oe : Obj) (cls : Value) (d : Option Addr) (pn : List (Addr × Obj)), Zc cls d oe → (∃ vs, oe.data = .fields vs) → PSs (X.suite a ((a, oe) :: pn)) (b0 :: suite) (ts a cls d)) (r : ClOk X hds l) :
      ClOk X (.ExceptHandler (some (.Name x np)) (some n) (b0 :: suite) pos' :: hds) (⟨c, some i, ts⟩ :: l)
section
variable {X : Cx} {body : List Stmt} {h0 : ExceptHandler} {hds : List ExceptHandler} {l : List Cl} {pos : Pos} {tb : WX → TS} {Wout : WX}
theorem ps_tryC (tk : Takes X Wout) (hb : ∀ (W : WX) (pn : List (Addr × Obj)) (xe : Value → Shared → Prop), Takes (X.tr pn xe) W → PassesOwn (model X.prog X.w) X.A X.env xe → PSs (X.tr pn xe) body (tb W))
    (hh : ClOk X (h0 :: hds) l) (hs : X.stack = X.env :: X.outer := by rfl) (hf : X.env.frame = some X.env.locals := by rfl) : PS X (.Try body (h0 :: hds) [] [] pos) (fun D σ H => tb (wCl X.K Wout D l) D σ H) := by
  refine ⟨fun pins s σ H D I h => ?_⟩
  have ok := I.ok
  have hfr : X.A.frames = some (X.env :: X.outer) := by rw [ok.frames, hs]
  refine wpAny_Try_except ?_
  refine wpAny_mono ((hb (wCl X.K Wout D l) (X.pn ++ pins) (fun e s₁ => wpAny (model X.prog X.w) X.A (noteFrame e X.env) (fun _ s₂ => wpAny (model X.prog X.w) X.A (setFlight e none) (fun _ s₃ =>
    wpAny (model X.prog X.w) X.A (handleBy e X.env (h0 :: hds)) (SP X pins D) X.xe s₃) X.xe s₂) X.xe s₁) (fun u s' xx => ?_) PassesOwn.looking).run [] s σ H D (I.toTry _) h) (fun f s1 hsp => ?_) (fun e s1 he => he)
  · obtain ⟨a, B, sI, pins', σ', H', cls, d, rfl, J', nb, up, sky, na, os, ag, w⟩ := xx
    have J : Inv X pins σ' H' sI := J'.ofTry ok
    have skyT : Sky B (X.env :: X.outer) a (Zc cls d) X.env.locals s'.heap := by rw [← hs]; exact sky
    show wpAny (model X.prog X.w) X.A (noteFrame (.ref a) X.env) _ _ _
    refine Sky.land Zc.steady hfr hf skyT fun h3 fl3 up3 => ?_
    have J3 : Inv X pins σ' H' { s' with heap := h3 } := J.landed nb fl3.1 (up.trans up3) os ag
    obtain ⟨oe3, vs3, he3, hz3, hd3⟩ := fl3.there
    have offFr : ∀ {h : Heap} {o : Obj} {vs : Array Value}, h.FunFrames B (X.env :: X.outer) → h.get? a = some o → o.data = .fields vs → a ∉ frs (X.env :: X.outer) := fun {h o vs} ff e dd hm => by
      obtain ⟨_, o', e', hnf⟩ := ff.mem hm
      rw [e] at e'; cases e'
      exact hnf _ dd
    have nfr := offFr fl3.2.2.1 he3 hd3
    have nL : a ≠ X.env.locals := fun z => nfr (List.mem_filterMap.mpr ⟨X.env, List.mem_cons_self, by rw [hf, z]⟩)
    have nF : a ∉ X.fs := fun hm => by
      obtain ⟨e, he, q⟩ := List.mem_filterMap.mp hm
      exact nfr (List.mem_filterMap.mpr ⟨e, List.mem_cons_of_mem _ he, q⟩)
    have S3 := J3.suite he3 hd3 na nL nF
    have LT : PySem.W.Looks (model X.prog X.w) h3 (typeOf (.ref a)) cls := fun A Q E s k q => wpAny_typeOf_ref (k _ _ he3) (by rw [hz3.1]; exact q)
    -- the class of a clause is looked up
    have look : ∀ {x : Str} {c : Value} {np : Pos}, Names X x c → ∀ {Q : Value → Shared → Prop} {E : Value → Shared → Prop}, Q c { s' with heap := h3 } → wpAny (model X.prog X.w) (X.A.mark (some (.ref a))) (eval (.Name x np) X.env) Q E { s' with heap := h3 } := fun {x c np} hc {Q E} q => by
      obtain ⟨hg, hdbg, hm | ⟨hm, hv, hnn⟩⟩ := hc
      · exact ld_glob (X := X.suite a ((a, oe3) :: (X.pn ++ pins))) S3 hg hm q hdbg
      · exact ld_blt (X := X.suite a ((a, oe3) :: (X.pn ++ pins))) S3 hg hm hv q hnn hdbg
    have go : ∀ {hds' : List ExceptHandler} {l' : List Cl}, ClOk X hds' l' → wCl X.K Wout D l' cls d σ' H' → wpAny (model X.prog X.w) X.A (handleBy (.ref a) X.env hds') (SP X pins D) X.xe { s' with heap := h3 } := by
      intro hds' l' hk
      induction hk with
      | nil =>
        intro w
        refine wpAny_handleBy_nil ?_
        obtain ⟨k1, k2, k3, oe, vs, T, oT, ts', he, hz, hd, h1, hr⟩ := id fl3
        unfold PySem.passOn
        refine wpAny_bind (wpAny_field he hd h1 ?_)
        rw [if_neg (show ¬ ((Value.ref T == Value.none) = true) from by simp)]
        have fin : wpAny (model X.prog X.w) X.A (setFlight (.ref a) X.env.frame) (fun _ s4 => wpAny (model X.prog X.w) X.A (throw (.ref a) : Sem Flow) (SP X pins D) X.xe s4) X.xe { s' with heap := h3 } := by
          rw [hf]
          refine HandSPX.setFlight_upZ fl3 fun h4 hh4 up4 => wpAny_throw (tk _ _ ?_)
          exact ⟨a, B, sI, pins, σ', H', cls, d, rfl, J, nb, (up.trans up3).trans up4, .inr (.inr (by rw [hs]; exact hh4)), na, os, ag, w⟩
        first
          | exact wpAny_bind (wpAny_pure (wpAny_bind fin))
          | exact wpAny_bind fin
      | @bare x c ts b0 suite np pos' hds2 l2 hc hsu r ih =>
        intro w
        obtain ⟨b, hb1, hyes, hno⟩ := w
        refine wpAny_handleBy_cons (codeAny_handlers_test ?_) (by intro q; cases q)
        refine look hc ((PySem.W.exm_one (M := model X.prog X.w) (J3.kIn) LT hb1).here ?_)
        cases b with
        | true =>
          refine codeAny_handlers_suite ?_
          refine HandSPX.lands_againZ fl3 fun h4 fl4 up4 => ?_
          have J4 : Inv X pins σ' H' { s' with heap := h4 } := J.landed nb fl4.1 ((up.trans up3).trans up4) os ag
          obtain ⟨oe4, vs4, he4, hz4, hd4⟩ := fl4.there
          refine wpAny_mono ((hsu a oe4 cls d (X.pn ++ pins) hz4 ⟨_, hd4⟩).run [] _ _ H' _ (J4.suite he4 hd4 na nL nF) (hyes rfl a na)) (fun f s6 hsp => ?_) (fun _ _ z => False.elim z)
          cases f with
          | next => obtain ⟨σ6, H6, S6, q6⟩ := hsp; exact ⟨_, _, S6.unsuite ok, q6⟩
          | brk => obtain ⟨σ6, H6, S6, q6⟩ := hsp; exact ⟨_, _, S6.unsuite ok, q6⟩
          | cont => obtain ⟨σ6, H6, S6, q6⟩ := hsp; exact ⟨_, _, S6.unsuite ok, q6⟩
          | ret u => obtain ⟨v6, σ6, H6, S6, r6, q6⟩ := hsp; exact ⟨_, _, _, S6.unsuite ok, r6, q6⟩
        | false =>
          show wpAny _ X.A (handleBy (.ref a) X.env hds2) _ _ _
          exact ih (hno rfl)
      | @named x n i c ts b0 suite np pos' hds2 l2 hc hN hi hln hsu r ih =>
        intro w
        obtain ⟨b, hb1, hyes, hno⟩ := w
        refine wpAny_handleBy_cons (codeAny_handlers_test ?_) (by intro q; cases q)
        refine look hc ((PySem.W.exm_one (M := model X.prog X.w) (J3.kIn) LT hb1).here ?_)
        cases b with
        | true =>
          refine codeAny_handlers_suite_as ?_
          refine HandSPX.lands_againZ fl3 fun h4 fl4 up4 => ?_
          have J4 : Inv X pins σ' H' { s' with heap := h4 } := J.landed nb fl4.1 ((up.trans up3).trans up4) os ag
          obtain ⟨oe4, vs4, he4, hz4, hd4⟩ := fl4.there
          refine store_ok (X := X.suite a ((a, oe4) :: (X.pn ++ pins))) (v := .ref a) (J4.suite he4 hd4 na nL nF) hN hi (.inl hln) rfl (fun s5 S5 => ?_) (.inr hln)
          refine wpAny_mono ((hsu a oe4 cls d (X.pn ++ pins) hz4 ⟨_, hd4⟩).run [] s5 _ H' _ S5 (hyes rfl a na)) (fun f s6 hsp => ?_) (fun _ _ z => False.elim z)
          have out : ∀ {σ6 : L2.St} {H6 : Hp} {Q : Shared → Prop}, Inv (X.suite a ((a, oe4) :: (X.pn ++ pins))) [] σ6 H6 s6 → (∀ s7, Inv X pins (σ6.set i none) H6 s7 → Q s7) →
              wpAny (model X.prog X.w) X.A (do bindName X.env n .none; unbindBehindTheSuite X.env n pos') (fun _ s7 => Q s7) X.xe s6 := fun {σ6 H6 Q} S6 hq => gone_ok (S6.unsuite ok) hN hi hln hq
          cases f with
          | next => obtain ⟨σ6, H6, S6, q6⟩ := hsp; exact out S6 fun s7 J7 => ⟨_, _, J7, q6⟩
          | brk => obtain ⟨σ6, H6, S6, q6⟩ := hsp; exact out S6 fun s7 J7 => ⟨_, _, J7, q6⟩
          | cont => obtain ⟨σ6, H6, S6, q6⟩ := hsp; exact out S6 fun s7 J7 => ⟨_, _, J7, q6⟩
          | ret u => obtain ⟨v6, σ6, H6, S6, r6, q6⟩ := hsp; exact out S6 fun s7 J7 => ⟨_, _, _, J7, r6, q6⟩
        | false =>
          show wpAny _ X.A (handleBy (.ref a) X.env hds2) _ _ _
          exact ih (hno rfl)
    exact go hh w
  · cases f with
    | next => obtain ⟨σ', H', J', q⟩ := hsp; exact wpAny_execs_nil ⟨σ', H', J'.ofTry ok, q⟩
    | brk => obtain ⟨σ', H', J', q⟩ := hsp; exact ⟨σ', H', J'.ofTry ok, q⟩
    | cont => obtain ⟨σ', H', J', q⟩ := hsp; exact ⟨σ', H', J'.ofTry ok, q⟩
    | ret u => obtain ⟨v, σ', H', J', r, q⟩ := hsp; exact ⟨v, σ', H', J'.ofTry ok, r, q⟩
end
end Uv

set_option Elab.async false
set_option linter.all false
set_option maxRecDepth 100000
set_option maxHeartbeats 4000000
namespace Uv
open PySem PySem.Spec L2
open PyProof.Rows hiding St

/-! ### heaps that grow -/
/-- all that was there stands -/
abbrev Ex := Evl.Ex
theorem exR (H : Hp) : Ex H H := Evl.Ex.refl H
theorem exN {H : Hp} {p : Addr} {o : HO} (h : H p = none) : Ex H (upd H p o) := Evl.Ex.new h
theorem Ex.tr {H H1 H2 : Hp} (a : Ex H H1) (b : Ex H1 H2) : Ex H H2 := Evl.Ex.trans a b
mutual
theorem dp_ex {K : PySem.W.Frag} {H H' : Hp} (e : Ex H H') : ∀ (d : PyData) (v : V), Dp K H v d → Dp K H' v d
  | .none, _, h => by cases h; exact .non
  | .bool b, _, h => by cases h; exact .bl b
  | .int i, _, h => by cases h; exact .int i
  | .str x, _, h => by cases h; exact .str x
  | .list ds, _, h => by
    cases h with
    | lst hs ha => exact .lst (Evl.ex_l e hs) (dpa_ex e ds _ ha)
  | .tuple ds, _, h => by
    cases h with
    | tup hs ha => exact .tup (Evl.ex_t e hs) (dpa_ex e ds _ ha)
  | .dict _, _, h => by cases h
theorem dpa_ex {K : PySem.W.Frag} {H H' : Hp} (e : Ex H H') : ∀ (ds : List PyData) (vs : List V), DpAll K H vs ds → DpAll K H' vs ds
  | [], _, h => by cases h; exact .nil
  | d :: ds, _, h => by
    cases h with
    | cons a b => exact .cons (dp_ex e d _ a) (dpa_ex e ds _ b)
end
theorem Dp.ex {K : PySem.W.Frag} {H H' : Hp} {v : V} {d : PyData} (h : Dp K H v d) (e : Ex H H') : Dp K H' v d := dp_ex e d v h

/-! ### readings, a step each -/
section
variable {σ : L2.St} {H : Hp} {Q : VK} {QB : Bool → Hp → Prop} {QA : List V → Hp → Prop} {D : Ends} {ta tb te : TE} {t u : TT} {s1 s2 : TS} {v x y : V} {i : Nat} {K : PySem.W.Frag}
theorem s_seq (h : s1 { D with nx := s2 D } σ H) : tSeq s1 s2 D σ H := h
theorem s_next (h : D.nx σ H) : tNext D σ H := h
theorem s_brk (h : D.bk σ H) : tBreak D σ H := h
theorem s_cont (h : D.ct σ H) : tCont D σ H := h
theorem s_asg {g : TG} (h : te σ H fun x H1 => g x σ H1 D.nx) : tAsg te g D σ H := h
theorem s_gn {Q : L2.St → Hp → Prop} (h : Q (σ.set i (some v)) H) : gName i v σ H Q := h
theorem s_ret (h : te σ H D.rt) : tRet te D σ H := h
theorem s_drop (h : te σ H fun _ H1 => D.nx σ H1) : tDrop te D σ H := h
theorem s_if (h : t σ H fun b H1 => if b = true then s1 D σ H1 else s2 D σ H1) : tIfS t s1 s2 D σ H := h
theorem s_var (h : σ[i]? = some (some v)) (q : Q v H) : tVar i σ H Q := ⟨v, h, q⟩
theorem s_c (q : Q v H) : tC v σ H Q := q
theorem s_op {r : R2} (h : ta σ H fun x H1 => tb σ H1 fun y H2 => r x y H2 Q) : tOp r ta tb σ H Q := h
theorem s_un {r : V → Hp → VK → Prop} (h : ta σ H fun x H1 => r x H1 Q) : tUn r ta σ H Q := h
theorem s_cb {r : List V → Hp → VK → Prop} {ts : TA} (h : ts σ H fun vs H1 => r vs H1 Q) : tCB r ts σ H Q := h
theorem s_call {sp : Sp} {dvs : List V} {E : L2.St → XK} {ts : TA} (h : ts σ H fun vs H1 => sp (vs ++ dvs) H1 Q (E σ)) : uCall sp dvs E ts σ H Q := h
theorem s_cons {ts : TA} (h : ta σ H fun x H1 => ts σ H1 fun xs H2 => QA (x :: xs) H2) : tCons ta ts σ H QA := h
theorem s_nil (h : QA [] H) : tNil σ H QA := h
theorem s_test (h : te σ H fun x H' => ∃ k, x = .bl k ∧ QB k H') : tTest te σ H QB := h
theorem s_tB (h : te σ H fun x H' => ∃ k, x = .bl k ∧ QB k H') : tB te σ H QB := h
theorem s_not (h : t σ H fun c H1 => QB (!c) H1) : tNot t σ H QB := h
theorem s_and (h : t σ H fun c H1 => if c = true then u σ H1 QB else QB false H1) : tAnd t u σ H QB := h
theorem s_or (h : t σ H fun c H1 => if c = true then QB true H1 else u σ H1 QB) : tOr t u σ H QB := h
theorem s_andV (h : ta σ H fun x H1 => ∃ c, x = .bl c ∧ if c = true then tb σ H1 Q else Q (.bl false) H1) : tAndV ta tb σ H Q := h
theorem s_orV (h : ta σ H fun x H1 => ∃ c, x = .bl c ∧ if c = true then Q (.bl true) H1 else tb σ H1 Q) : tOrV ta tb σ H Q := h
theorem s_notV (h : ta σ H fun x H1 => ∃ c, x = .bl c ∧ Q (.bl (!c)) H1) : tNotV ta σ H Q := h
theorem s_ifE (h : t σ H fun c H1 => if c = true then ta σ H1 Q else tb σ H1 Q) : tIf t ta tb σ H Q := h
theorem s_bl {b : Bool} {P : Bool → Prop} (h : P b) : ∃ c, V.bl b = V.bl c ∧ P c := ⟨b, rfl, h⟩
theorem s_iT {A B : Prop} (h : A) : if true = true then A else B := by rw [if_pos rfl]; exact h
theorem s_iF {A B : Prop} (h : B) : if false = true then A else B := by rw [if_neg Bool.false_ne_true]; exact h
theorem s_ite {c : Prop} [Decidable c] {A B : Prop} (h1 : c → A) (h2 : ¬ c → B) : if decide c = true then A else B := by
  by_cases h : c
  · rw [if_pos (decide_eq_true h)]; exact h1 h
  · rw [if_neg (by simpa using h)]; exact h2 h
theorem s_iteN {c : Prop} [Decidable c] {A B : Prop} (h1 : ¬ c → A) (h2 : c → B) : if (!decide c) = true then A else B := by
  by_cases h : c
  · rw [decide_eq_true h]; exact s_iF (h2 h)
  · rw [decide_eq_false h]; exact s_iT (h1 h)
theorem s_itB {b : Bool} {A B : Prop} (h1 : b = true → A) (h2 : b = false → B) : if b = true then A else B := by
  cases b with
  | true => exact s_iT (h1 rfl)
  | false => exact s_iF (h2 rfl)
/-- a new tuple, a new list; the heap is from then on any that has it -/
theorem s_new {o : HO} {P : Addr → Hp → Prop} (h : ∀ p H', H p = none → Ex H H' → H' p = some o → P p H') : ∀ p, H p = none → P p (upd H p o) := fun p n => h p _ n (exN n) upd_same
theorem s_tup {ts : TA} (h : ts σ H fun xs H1 => xs.length ≤ sizeLine ∧ ∀ p H', H1 p = none → Ex H1 H' → H' p = some (.tup xs) → Q (.ref p) H') (mono : ∀ Q1 Q2 : List V → Hp → Prop, (∀ xs H1, Q1 xs H1 → Q2 xs H1) → ts σ H Q1 → ts σ H Q2) : tTup ts σ H Q :=
  mono _ _ (fun xs H1 z => ⟨z.1, s_new z.2⟩) h
theorem s_tupE {ts : TA} (h : ts σ H fun xs H1 => xs.length ≤ sizeLine ∧ ∀ p, H1 p = none → Q (.ref p) (upd H1 p (.tup xs))) : tTup ts σ H Q := h
theorem s_lstE {ts : TA} (h : ts σ H fun xs H1 => xs.length ≤ sizeLine ∧ ∀ p, H1 p = none → Q (.ref p) (upd H1 p (.lst xs))) : tLst ts σ H Q := h
theorem s_szN {n : Nat} {P : Prop} (hn : n ≤ 1000) (h : P) : n ≤ sizeLine ∧ P := ⟨Nat.le_trans hn (by decide), h⟩
/-! operators -/
theorem s_I0 {g : Int → Int → V} {a b : Int} (h : Q (g a b) H) : rI0 g (.int a) (.int b) H Q := ⟨a, b, rfl, rfl, h⟩
theorem s_I {C : Int → Int → Prop} {g : Int → Int → V} {a b : Int} (c : C a b) (h : Q (g a b) H) : rI C g (.int a) (.int b) H Q := ⟨a, b, rfl, rfl, c, h⟩
theorem s_U {g : Int → V} {a : Int} (h : Q (g a) H) : rU g (.int a) H Q := ⟨a, rfl, h⟩
theorem s_addI {a b : Int} (h : Q (.int (a + b)) H) : uAdd K (.int a) (.int b) H Q := h
theorem s_addS {a b : Str} (c : a.length + b.length ≤ sizeLine) (h : Q (.str (a ++ b)) H) : uAdd K (.str a) (.str b) H Q := ⟨c, h⟩
theorem s_addL {a b : Addr} {xs ys : List V} (ha : H a = some (.lst xs)) (hb : H b = some (.lst ys)) (c : xs.length + ys.length ≤ sizeLine) (h : ∀ p, H p = none → Q (.ref p) (upd H p (.lst (xs ++ ys)))) : uAdd K (.ref a) (.ref b) H Q := .inl ⟨a, b, xs, ys, rfl, rfl, ha, hb, c, h⟩
theorem s_mulI {a b : Int} (c : CMul a b ∨ CMulW a b) (h : Q (.int (a * b)) H) : uMul K (.int a) (.int b) H Q := ⟨c, h⟩
theorem s_mulS {a : Str} {n : Int} (c : MulOk a n) (h : Q (.str (Txt.mul a n)) H) : uMul K (.str a) (.int n) H Q := ⟨c, h⟩
theorem s_divI {a b : Int} (c : b ≠ 0 ∧ b.natAbs.log2 < 9000) (h : Q (.int (a.fdiv b)) H) : uDiv (.int a) (.int b) H Q := ⟨c, h⟩
theorem s_divP {a b : Int} (c : 0 < b) (d : b.natAbs.log2 < 9000) (h : Q (.int (a / b)) H) : uDiv (.int a) (.int b) H Q := ⟨⟨by omega, d⟩, by rw [Int.fdiv_eq_ediv_of_nonneg a (by omega)]; exact h⟩
theorem s_eqI {a b : Int} (h : Q (.bl (decide (a = b))) H) : uEq K (.int a) (.int b) H Q := h
theorem s_eqS {a b : Str} (h : Q (.bl (decide (a = b))) H) : uEq K (.str a) (.str b) H Q := h
theorem s_eqB {a b : Bool} (h : Q (.bl (decide (a = b))) H) : uEq K (.bl a) (.bl b) H Q := h
theorem s_neI {a b : Int} (h : Q (.bl (!decide (a = b))) H) : uNe K (.int a) (.int b) H Q := h
theorem s_neS {a b : Str} (h : Q (.bl (!decide (a = b))) H) : uNe K (.str a) (.str b) H Q := h
theorem s_neB {a b : Bool} (h : Q (.bl (!decide (a = b))) H) : uNe K (.bl a) (.bl b) H Q := h
theorem eq_data {d e : PyData} (hx : Dp K H x d) (hy : Dp K H y e) (sd : SeqAt.shaped d = true) (se : SeqAt.shaped e = true) (h : Q (.bl (PyData.eqv d e)) H) : uEq K x y H Q := by
  have z : rEqD K x y H Q := ⟨d, e, hx, hy, sd, se, h⟩
  cases hx <;> cases hy <;> first | exact z | (simpa [uEq, PyData.eqv, Bool.beq_eq_decide_eq] using h)
theorem ne_data {d e : PyData} (hx : Dp K H x d) (hy : Dp K H y e) (sd : SeqAt.shaped d = true) (se : SeqAt.shaped e = true) (h : Q (.bl (!PyData.eqv d e)) H) : uNe K x y H Q := by
  have z : rNeD K x y H Q := ⟨d, e, hx, hy, sd, se, h⟩
  cases hx <;> cases hy <;> first | exact z | (simpa [uNe, PyData.eqv, Bool.beq_eq_decide_eq] using h)
theorem s_ixT {p : Addr} {xs : List V} {j : Int} (h : SqT K H p xs) (ha : atI xs j = some v) (q : Q v H) : rIx K (.ref p) (.int j) H Q := .inr (.inl ⟨p, xs, j, v, rfl, rfl, h, ha, q⟩)
theorem s_ixL {p : Addr} {xs : List V} {j : Int} (h : SqL K H p xs) (ha : atI xs j = some v) (q : Q v H) : rIx K (.ref p) (.int j) H Q := .inl ⟨p, xs, j, v, rfl, rfl, h, ha, q⟩
theorem s_ixS {z : Str} {j : Int} {c : Nat} (hz : z.length ≤ sizeLine) (ha : atI z.cps.toList j = some c) (q : Q (.str ⟨#[c]⟩) H) : rIx K (.str z) (.int j) H Q := .inr (.inr ⟨z, j, c, rfl, rfl, hz, ha, q⟩)
end

/-! ### built-ins by the kinds of their arguments -/
def uInt : List V → Hp → VK → Prop := fun xs H Q => match xs with
  | [.int i] => Q (.int i) H
  | [.bl b] => Q (.int (if b then 1 else 0)) H
  | [.str a] => ∃ n, PySem.intText? a = some n ∧ a.length ≤ 640 ∧ Q (.int n) H
  | _ => False
def uStr : List V → Hp → VK → Prop := fun xs H Q => match xs with
  | [.int i] => i.natAbs.log2 < 1920 ∧ Q (.str (toString i)) H
  | [.str a] => Q (.str a) H
  | _ => False
/-- what repr gives of plain data -/
def ReprV (K : PySem.W.Frag) (H : Hp) (v : V) (r : Str) : Prop := (∃ d, Dp K H v d ∧ d.showable = true ∧ d.hasDict = false ∧ d.depth ≤ 60 ∧ d.shown.length ≤ sizeLine ∧ r = d.shown) ∨ ∃ a, v = .ref a ∧ H a = some (.dK []) ∧ r = "{}"
def uRepr (K : PySem.W.Frag) : List V → Hp → VK → Prop := fun xs H Q => ∃ v r, xs = [v] ∧ ReprV K H v r ∧ Q (.str r) H
section
variable {X : Cx}
theorem call_uInt : CallR X (.type "int") uInt := by
  intro pins s σ H xs us Q I r h
  match xs, h with
  | [.int i], h => exact call_int1 pins s σ H _ us Q I r (.inl ⟨i, rfl, h⟩)
  | [.bl b], h => exact call_int1 pins s σ H _ us Q I r (.inr ⟨b, rfl, h⟩)
  | [.str a], h =>
    obtain ⟨n, h1, h2, h3⟩ := h
    exact call_int_str pins s σ H _ us Q I r ⟨a, n, rfl, h1, h2, h3⟩
theorem call_uStr : CallR X (.type "str") uStr := by
  intro pins s σ H xs us Q I r h
  match xs, h with
  | [.int i], h => exact call_str_int pins s σ H _ us Q I r ⟨i, rfl, h.1, h.2⟩
  | [.str a], h => exact SkE.call_str_str pins s σ H _ us Q I r ⟨a, rfl, h⟩
theorem call_uRepr {k : Nat} (hr : Rm k X.A) : CallR X (.builtin "repr") (uRepr X.K) := by
  intro pins s σ H xs us Q I r h
  obtain ⟨v, q, rfl, hd, h⟩ := h
  have hu := hr.r.un
  obtain ⟨u, rfl⟩ : ∃ u, us = [u] := by
    cases r with
    | cons a b => cases b; exact ⟨_, rfl⟩
  have rv : RelV v u := by
    cases r with
    | cons a b => exact a
  have fin : ∀ (d : PyData) (as : List Addr) (a : Addr), u = .ref a → Reads s.heap (.ref a) d as → d.showable = true → (d.hasDict = true → sysModules ∉ as) → d.depth ≤ 60 → d.shown.length ≤ sizeLine → q = d.shown → wpAny (model X.prog X.w) X.A (call (.builtin "repr") [u]) (EP X pins σ Q) X.xe s := by
    intro d as a e rd hs hsm hdp hl hq
    subst e hq
    exact repr_of_reads' rd hs hsm hr.g (by omega) (fun _ _ z => z) (fun h' t tk k => ⟨.str d.shown, H, I.kept (t' := tk) k, ⟨_, rfl⟩, h⟩) hl
  rcases hd with ⟨d, hp, hs, hnd, hdp, hl, rfl⟩ | ⟨a, rfl, hH, rfl⟩
  · cases hp with
    | non => cases (show u = .none from rv); exact P.repr_of_none ⟨.str "None", H, I.tok _, ⟨_, rfl⟩, by simpa only [PyData.shown] using h⟩
    | bl b => cases (show u = .bool b from rv); exact P.repr_of_bool ⟨.str _, H, I.tok _, ⟨_, rfl⟩, by cases b <;> simpa only [PyData.shown] using h⟩
    | int i =>
      obtain ⟨t, rfl⟩ := (show ∃ t, u = .int i t from rv)
      exact P.repr_of_int (by simpa [PyData.showable] using hs) ⟨.str _, H, I.tok _, ⟨_, rfl⟩, by simpa only [PyData.shown] using h⟩
    | str x =>
      obtain ⟨t, rfl⟩ := (show ∃ t, u = .str x t from rv)
      exact P.repr_of_str ⟨.str _, H, I.tok _, ⟨_, rfl⟩, by simpa only [PyData.shown] using h⟩ (by simpa only [PyData.shown] using hl)
    | @lst a xs ds hq ha =>
      cases (show u = .ref a from rv)
      obtain ⟨as, rd⟩ := Dp.reads I _ _ _ (.lst hq ha) (show RelV (.ref a) (.ref a) from rfl)
      exact fin _ _ a rfl rd hs (fun z => by rw [hnd] at z; cases z) hdp hl rfl
    | @tup a xs ds hq ha =>
      cases (show u = .ref a from rv)
      obtain ⟨as, rd⟩ := Dp.reads I _ _ _ (.tup hq ha) (show RelV (.ref a) (.ref a) from rfl)
      exact fin _ _ a rfl rd hs (fun z => by rw [hnd] at z; cases z) hdp hl rfl
  · cases (show u = .ref a from rv)
    obtain ⟨_, hsys, vs, kv, o, es, ep, ho, hx, hdt, _, he, _⟩ := (show ObjOk X.prog X.w H s.heap a (.dK []) from I.hok a _ hH)
    cases kv
    have hes : es = #[] := by
      have z : es.toList = [] := by
        cases q : es.toList with
        | nil => rfl
        | cons b l => rw [q] at he; cases he
      exact Array.toList_eq_nil_iff.mp z
    subst hes
    have rd : Reads s.heap (.ref a) (.dict []) _ := Reads.dict ho hx.1 hdt .nil .nil
    refine fin (.dict []) _ a rfl rd (by simp [PyData.showable, PyData.showableKv]) (fun _ hm => ?_) (by simp [PyData.depth, PyData.depthKv]) (by decide +kernel) (by decide +kernel)
    have z : sysModules = a := by simpa using hm
    rw [z] at hsys
    simp at hsys
end
end Uv

set_option Elab.async false
set_option linter.all false
set_option maxRecDepth 100000
set_option maxHeartbeats 4000000
namespace Uv
open PySem PySem.Spec L2
open PyProof.Rows hiding St
/-- the built-in names that the module leaves alone -/
structure Bi (mg : Str → Option Value) : Prop where
  isinstance : mg "isinstance" = none
  len : mg "len" = none
  abs : mg "abs" = none
  repr : mg "repr" = none
  max : mg "max" = none
  min : mg "min" = none
  sum : mg "sum" = none
  all : mg "all" = none
  any : mg "any" = none
  sorted : mg "sorted" = none
  int : mg "int" = none
  str : mg "str" = none
  list : mg "list" = none
  tuple : mg "tuple" = none
  bool : mg "bool" = none
  dict : mg "dict" = none
  range : mg "range" = none
  enumerate : mg "enumerate" = none
  zip : mg "zip" = none
  iter : mg "iter" = none
  reversed : mg "reversed" = none
  super : mg "super" = none
  ValueError : mg "ValueError" = none
def biNames : List Str := ["isinstance", "len", "abs", "repr", "max", "min", "sum", "all", "any", "sorted", "int", "str", "list", "tuple", "bool", "dict", "range", "enumerate", "zip", "iter", "reversed", "super", "ValueError"]
theorem Bi.of {mg : Str → Option Value} (h : ∀ (i : Nat) (x : Str), biNames[i]? = some x → mg x = none) : Bi mg :=
  ⟨h 0 _ rfl, h 1 _ rfl, h 2 _ rfl, h 3 _ rfl, h 4 _ rfl, h 5 _ rfl, h 6 _ rfl, h 7 _ rfl, h 8 _ rfl, h 9 _ rfl, h 10 _ rfl, h 11 _ rfl, h 12 _ rfl, h 13 _ rfl, h 14 _ rfl, h 15 _ rfl, h 16 _ rfl, h 17 _ rfl, h 18 _ rfl, h 19 _ rfl, h 20 _ rfl, h 21 _ rfl, h 22 _ rfl⟩
theorem b_isinstance : bootBuiltins "isinstance" = some (.builtin "isinstance") := by first | rfl | decide +kernel
theorem b_len : bootBuiltins "len" = some (.builtin "len") := by first | rfl | decide +kernel
theorem b_abs : bootBuiltins "abs" = some (.builtin "abs") := by first | rfl | decide +kernel
theorem b_repr : bootBuiltins "repr" = some (.builtin "repr") := by first | rfl | decide +kernel
theorem b_max : bootBuiltins "max" = some (.builtin "max") := by first | rfl | decide +kernel
theorem b_min : bootBuiltins "min" = some (.builtin "min") := by first | rfl | decide +kernel
theorem b_sum : bootBuiltins "sum" = some (.builtin "sum") := by first | rfl | decide +kernel
theorem b_all : bootBuiltins "all" = some (.builtin "all") := by first | rfl | decide +kernel
theorem b_any : bootBuiltins "any" = some (.builtin "any") := by first | rfl | decide +kernel
theorem b_sorted : bootBuiltins "sorted" = some (.builtin "sorted") := by first | rfl | decide +kernel
theorem b_int : bootBuiltins "int" = some (.type "int") := by first | rfl | decide +kernel
theorem b_str : bootBuiltins "str" = some (.type "str") := by first | rfl | decide +kernel
theorem b_list : bootBuiltins "list" = some (.type "list") := by first | rfl | decide +kernel
theorem b_tuple : bootBuiltins "tuple" = some (.type "tuple") := by first | rfl | decide +kernel
theorem b_bool : bootBuiltins "bool" = some (.type "bool") := by first | rfl | decide +kernel
theorem b_dict : bootBuiltins "dict" = some (.type "dict") := by first | rfl | decide +kernel
theorem b_ValueError : bootBuiltins "ValueError" = some (.type "ValueError") := by first | rfl | decide +kernel
section
variable {X : Cx}
def uSl (K : PySem.W.Frag) : V → Option Int → Option Int → Hp → VK → Prop := fun x lo hi H Q => match x with
  | .str z => z.length ≤ sizeLine ∧ Q (.str (cutS z lo hi)) H
  | x => rSlL K x lo hi H Q ∨ rSlA K x lo hi H Q
theorem sl_u : SlR X (uSl X.K) := by
  intro pins s σ H x v vl vu lo hi sl Q I rx hs pl pu h
  cases x with
  | str z => exact sl_str pins s σ H _ v vl vu lo hi sl Q I rx hs pl pu ⟨z, rfl, h.1, h.2⟩
  | _ =>
    rcases h with h | h
    · exact sl_list pins s σ H _ v vl vu lo hi sl Q I rx hs pl pu h
    · exact sl_tupA pins s σ H _ v vl vu lo hi sl Q I rx hs pl pu h
end
/-! the type of a piece of data, isinstance of built-in types -/
def tyD : PyData → String
  | .none => "NoneType"
  | .bool _ => "bool"
  | .int _ => "int"
  | .str _ => "str"
  | .list _ => "list"
  | .tuple _ => "tuple"
  | .dict _ => "dict"
theorem tyx_of {K : PySem.W.Frag} {H : Hp} {v : V} {d : PyData} (h : Dp K H v d) : TyX K H v (.type (tyD d)) := by
  cases h with
  | non => exact .base .non
  | bl b => exact .base (.bl b)
  | int i => exact .base (.int i)
  | str x => exact .base (.str x)
  | lst hs _ =>
    rcases hs with (h | ⟨o, h⟩) | ⟨o, its, n, hk, hc, _⟩
    · exact .base (.lst h)
    · exact .base (.frz h)
    · exact .kList hk hc
  | tup hs _ =>
    rcases hs with (h | ⟨o, h⟩) | ⟨o, its, n, hk, hc, _⟩
    · exact .base (.tup h)
    · exact .fTuple h
    · exact .kTuple hk hc
def isB (d : PyData) (n : String) : Bool := match d, n with
  | .bool _, "int" => true
  | d, n => tyD d == n
theorem kit_int : ∀ {K : PySem.W.Frag} (d : PyData), PySem.W.kitOne K (.type (tyD d)) (.type "int") = some (match d with | .int _ => true | .bool _ => true | _ => false)
  | K, .none => kit_ty (show kitB "NoneType" "int" = some false from by decide +kernel)
  | K, .bool _ => kit_ty (show kitB "bool" "int" = some true from by decide +kernel)
  | K, .int _ => kit_ty (show kitB "int" "int" = some true from by decide +kernel)
  | K, .str _ => kit_ty (show kitB "str" "int" = some false from by decide +kernel)
  | K, .list _ => kit_ty (show kitB "list" "int" = some false from by decide +kernel)
  | K, .tuple _ => kit_ty (show kitB "tuple" "int" = some false from by decide +kernel)
  | K, .dict _ => kit_ty (show kitB "dict" "int" = some false from by decide +kernel)
theorem kit_bool : ∀ {K : PySem.W.Frag} (d : PyData), PySem.W.kitOne K (.type (tyD d)) (.type "bool") = some (match d with | .bool _ => true | _ => false)
  | K, .none => kit_ty (show kitB "NoneType" "bool" = some false from by decide +kernel)
  | K, .bool _ => kit_ty (show kitB "bool" "bool" = some true from by decide +kernel)
  | K, .int _ => kit_ty (show kitB "int" "bool" = some false from by decide +kernel)
  | K, .str _ => kit_ty (show kitB "str" "bool" = some false from by decide +kernel)
  | K, .list _ => kit_ty (show kitB "list" "bool" = some false from by decide +kernel)
  | K, .tuple _ => kit_ty (show kitB "tuple" "bool" = some false from by decide +kernel)
  | K, .dict _ => kit_ty (show kitB "dict" "bool" = some false from by decide +kernel)
theorem kit_str : ∀ {K : PySem.W.Frag} (d : PyData), PySem.W.kitOne K (.type (tyD d)) (.type "str") = some (match d with | .str _ => true | _ => false)
  | K, .none => kit_ty (show kitB "NoneType" "str" = some false from by decide +kernel)
  | K, .bool _ => kit_ty (show kitB "bool" "str" = some false from by decide +kernel)
  | K, .int _ => kit_ty (show kitB "int" "str" = some false from by decide +kernel)
  | K, .str _ => kit_ty (show kitB "str" "str" = some true from by decide +kernel)
  | K, .list _ => kit_ty (show kitB "list" "str" = some false from by decide +kernel)
  | K, .tuple _ => kit_ty (show kitB "tuple" "str" = some false from by decide +kernel)
  | K, .dict _ => kit_ty (show kitB "dict" "str" = some false from by decide +kernel)
theorem kit_tuple : ∀ {K : PySem.W.Frag} (d : PyData), PySem.W.kitOne K (.type (tyD d)) (.type "tuple") = some (match d with | .tuple _ => true | _ => false)
  | K, .none => kit_ty (show kitB "NoneType" "tuple" = some false from by decide +kernel)
  | K, .bool _ => kit_ty (show kitB "bool" "tuple" = some false from by decide +kernel)
  | K, .int _ => kit_ty (show kitB "int" "tuple" = some false from by decide +kernel)
  | K, .str _ => kit_ty (show kitB "str" "tuple" = some false from by decide +kernel)
  | K, .list _ => kit_ty (show kitB "list" "tuple" = some false from by decide +kernel)
  | K, .tuple _ => kit_ty (show kitB "tuple" "tuple" = some true from by decide +kernel)
  | K, .dict _ => kit_ty (show kitB "dict" "tuple" = some false from by decide +kernel)
theorem kit_list : ∀ {K : PySem.W.Frag} (d : PyData), PySem.W.kitOne K (.type (tyD d)) (.type "list") = some (match d with | .list _ => true | _ => false)
  | K, .none => kit_ty (show kitB "NoneType" "list" = some false from by decide +kernel)
  | K, .bool _ => kit_ty (show kitB "bool" "list" = some false from by decide +kernel)
  | K, .int _ => kit_ty (show kitB "int" "list" = some false from by decide +kernel)
  | K, .str _ => kit_ty (show kitB "str" "list" = some false from by decide +kernel)
  | K, .list _ => kit_ty (show kitB "list" "list" = some true from by decide +kernel)
  | K, .tuple _ => kit_ty (show kitB "tuple" "list" = some false from by decide +kernel)
  | K, .dict _ => kit_ty (show kitB "dict" "list" = some false from by decide +kernel)
section
variable {K : PySem.W.Frag} {H : Hp} {Q : VK} {v : V} {d : PyData}
abbrev isIntD : PyData → Bool | .int _ => true | .bool _ => true | _ => false
abbrev isBoolD : PyData → Bool | .bool _ => true | _ => false
abbrev isStrD : PyData → Bool | .str _ => true | _ => false
abbrev isTupD : PyData → Bool | .tuple _ => true | _ => false
abbrev isListD : PyData → Bool | .list _ => true | _ => false
theorem s_isInt (h : Dp K H v d) (q : Q (.bl (isIntD d)) H) : rIsi K [v, .ty "int"] H Q := ⟨v, .ty "int", _, _, _, rfl, .ty _, tyx_of h, kit_int d, by cases d <;> exact q⟩
theorem s_isBool (h : Dp K H v d) (q : Q (.bl (isBoolD d)) H) : rIsi K [v, .ty "bool"] H Q := ⟨v, .ty "bool", _, _, _, rfl, .ty _, tyx_of h, kit_bool d, by cases d <;> exact q⟩
theorem s_isStr (h : Dp K H v d) (q : Q (.bl (isStrD d)) H) : rIsi K [v, .ty "str"] H Q := ⟨v, .ty "str", _, _, _, rfl, .ty _, tyx_of h, kit_str d, by cases d <;> exact q⟩
theorem s_isTup (h : Dp K H v d) (q : Q (.bl (isTupD d)) H) : rIsi K [v, .ty "tuple"] H Q := ⟨v, .ty "tuple", _, _, _, rfl, .ty _, tyx_of h, kit_tuple d, by cases d <;> exact q⟩
theorem s_isList (h : Dp K H v d) (q : Q (.bl (isListD d)) H) : rIsi K [v, .ty "list"] H Q := ⟨v, .ty "list", _, _, _, rfl, .ty _, tyx_of h, kit_list d, by cases d <;> exact q⟩
end
end Uv

set_option Elab.async false
set_option linter.all false
set_option maxRecDepth 100000
set_option maxHeartbeats 4000000
namespace Uv
open PySem PySem.Spec L2
open PyProof.Rows hiding St
/-! ### the bag from which a law draws -/
def bagK (c : Addr) (at_ rest mixed count : Int) : List (Key × V) := [(.inr "cells", .ref c), (.inr "at", .int at_), (.inr "rest", .int rest), (.inr "mixed", .int mixed), (.inr "count", .int count)]
structure BagIs (H : Hp) (b c : Addr) (ns : List Int) (at_ rest mixed count : Int) : Prop where
  d : H b = some (.dK (bagK c at_ rest mixed count))
  l : H c = some (.lst (ns.map V.int))
  nn : 0 ≤ at_
  sz : ns.length ≤ 63
def BagAt (H : Hp) (b : Addr) : Prop := ∃ c ns at_ rest mixed count, BagIs H b c ns at_ rest mixed count
/-- the bag with its cells at c -/
def BagIn (H : Hp) (b c : Addr) : Prop := ∃ ns at_ rest mixed count, BagIs H b c ns at_ rest mixed count
theorem BagIn.at {H : Hp} {b c : Addr} (h : BagIn H b c) : BagAt H b := ⟨c, h⟩
theorem BagIn.one {H : Hp} {b c d : Addr} (h : BagIn H b c) (g : BagIn H b d) : c = d := by
  obtain ⟨ns, a, r, m, k, x⟩ := h
  obtain ⟨ns', a', r', m', k', y⟩ := g
  have e := x.d.symm.trans y.d
  simp only [Option.some.injEq, HO.dK.injEq, bagK, List.cons.injEq, Prod.mk.injEq, V.ref.injEq, true_and] at e
  exact e.1
theorem BagIn.ex {b c : Addr} {H H' : Hp} (h : BagIn H b c) (e : Ex H H') : BagIn H' b c := by
  obtain ⟨ns, a, r, m, k, x⟩ := h
  exact ⟨ns, a, r, m, k, e _ _ x.d, e _ _ x.l, x.nn, x.sz⟩
/-- all but the bag stands -/
structure Kb (b : Addr) (H H' : Hp) : Prop where
  bag : ∃ c, BagIn H b c ∧ BagIn H' b c
  keep : ∀ a o, a ≠ b → H a = some o → H' a = some o
theorem Kb.b0 {b : Addr} {H H' : Hp} (x : Kb b H H') : BagAt H b := let ⟨_, h, _⟩ := x.bag; h.at
theorem Kb.b1 {b : Addr} {H H' : Hp} (x : Kb b H H') : BagAt H' b := let ⟨_, _, h⟩ := x.bag; h.at
theorem Kb.refl {b : Addr} {H : Hp} (h : BagAt H b) : Kb b H H := let ⟨c, h⟩ := h; ⟨⟨c, h, h⟩, fun _ _ _ e => e⟩
theorem Kb.tr {b : Addr} {H H1 H2 : Hp} (x : Kb b H H1) (y : Kb b H1 H2) : Kb b H H2 := by
  obtain ⟨c, h1, h2⟩ := x.bag
  obtain ⟨d, g1, g2⟩ := y.bag
  have e := h2.one g1
  subst e
  exact ⟨⟨c, h1, g2⟩, fun a o n e => y.keep a o n (x.keep a o n e)⟩
theorem BagAt.ex {b : Addr} {H H' : Hp} (h : BagAt H b) (e : Ex H H') : BagAt H' b := by
  obtain ⟨c, h⟩ := h
  exact (BagIn.ex (c := c) h e).at
theorem Ex.kb {b : Addr} {H H' : Hp} (e : Ex H H') (h : BagAt H b) : Kb b H H' := let ⟨c, h⟩ := h; ⟨⟨c, h, BagIn.ex h e⟩, fun a o _ z => e a o z⟩
/-- an object that was not there is laid anew -/
theorem Kb.put {b d : Addr} {H H' : Hp} (x : Kb b H H') (n : H d = none) (o : HO) : Kb b H (upd H' d o) := by
  obtain ⟨c, h1, ns, a, r, m, k, y⟩ := x.bag
  have h1' := h1
  obtain ⟨_, _, _, _, _, z⟩ := h1
  have nb : b ≠ d := fun q => by rw [← q, z.d] at n; cases n
  have nc : c ≠ d := fun q => by rw [← q, z.l] at n; cases n
  exact ⟨⟨c, h1', ns, a, r, m, k, by rw [upd_ne nb]; exact y.d, by rw [upd_ne nc]; exact y.l, y.nn, y.sz⟩, fun a' o' na e => by
    rw [upd_ne (fun q => by rw [q, n] at e; cases e)]
    exact x.keep a' o' na e⟩
theorem Kb.at {b a : Addr} {H H' : Hp} {o : HO} (x : Kb b H H') (e : H a = some o) (n : ∀ kvs, o ≠ .dK kvs) : H' a = some o := by
  obtain ⟨c, ns, at_, r, m, k, y⟩ := x.b0
  exact x.keep a o (fun z => by rw [z, y.d] at e; exact n _ (Option.some.inj e).symm) e
theorem Kb.rd {b a : Addr} {H H' : Hp} {o : HO} (x : Kb b H H') (e : Rd H a o) (n : ∀ kvs, o ≠ .dK kvs) : Rd H' a o := by
  rcases e with e | ⟨u, e⟩
  · exact .inl (x.at e n)
  · exact .inr ⟨u, x.at e fun _ z => by cases z⟩
theorem Kb.l {b a : Addr} {K : PySem.W.Frag} {H H' : Hp} {xs : List V} (x : Kb b H H') (h : SqL K H a xs) : SqL K H' a xs := by
  rcases h with h | h
  · exact .inl (x.rd h fun _ z => by cases z)
  · exact .inr h
theorem Kb.t {b a : Addr} {K : PySem.W.Frag} {H H' : Hp} {xs : List V} (x : Kb b H H') (h : SqT K H a xs) : SqT K H' a xs := by
  rcases h with h | h
  · exact .inl (x.rd h fun _ z => by cases z)
  · exact .inr h
mutual
theorem dp_kb {K : PySem.W.Frag} {b : Addr} {H H' : Hp} (e : Kb b H H') : ∀ (d : PyData) (v : V), Dp K H v d → Dp K H' v d
  | .none, _, h => by cases h; exact .non
  | .bool b, _, h => by cases h; exact .bl b
  | .int i, _, h => by cases h; exact .int i
  | .str x, _, h => by cases h; exact .str x
  | .list ds, _, h => by
    cases h with
    | lst hs ha => exact .lst (e.l hs) (dpa_kb e ds _ ha)
  | .tuple ds, _, h => by
    cases h with
    | tup hs ha => exact .tup (e.t hs) (dpa_kb e ds _ ha)
  | .dict _, _, h => by cases h
theorem dpa_kb {K : PySem.W.Frag} {b : Addr} {H H' : Hp} (e : Kb b H H') : ∀ (ds : List PyData) (vs : List V), DpAll K H vs ds → DpAll K H' vs ds
  | [], _, h => by cases h; exact .nil
  | d :: ds, _, h => by
    cases h with
    | cons a b => exact .cons (dp_kb e d _ a) (dpa_kb e ds _ b)
end
theorem Kb.dp {K : PySem.W.Frag} {b : Addr} {H H' : Hp} {v : V} {d : PyData} (x : Kb b H H') (h : Dp K H v d) : Dp K H' v d := dp_kb x d v h

/-! its entries read and stored -/
section
variable {H : Hp} {Q : VK} {b c : Addr} {at_ rest mixed count : Int} {D : Ends} {σ : L2.St}
theorem key_ne {x y : Str} (h : (x == y) = false) : ¬ ((.inr x : Key) = .inr y) := fun z => by
  have e : x = y := Sum.inr.inj z
  rw [e] at h
  simp at h
theorem bv_cells : valV (bagK c at_ rest mixed count) (.inr "cells") = some (.ref c) := valV_pos rfl
theorem bv_at : valV (bagK c at_ rest mixed count) (.inr "at") = some (.int at_) := by
  unfold bagK
  rw [valV_neg (key_ne (by decide +kernel)), valV_pos rfl]
theorem bv_rest : valV (bagK c at_ rest mixed count) (.inr "rest") = some (.int rest) := by
  unfold bagK
  rw [valV_neg (key_ne (by decide +kernel)), valV_neg (key_ne (by decide +kernel)), valV_pos rfl]
theorem bv_mixed : valV (bagK c at_ rest mixed count) (.inr "mixed") = some (.int mixed) := by
  unfold bagK
  rw [valV_neg (key_ne (by decide +kernel)), valV_neg (key_ne (by decide +kernel)), valV_neg (key_ne (by decide +kernel)), valV_pos rfl]
theorem bv_count : valV (bagK c at_ rest mixed count) (.inr "count") = some (.int count) := by
  unfold bagK
  rw [valV_neg (key_ne (by decide +kernel)), valV_neg (key_ne (by decide +kernel)), valV_neg (key_ne (by decide +kernel)), valV_neg (key_ne (by decide +kernel)), valV_pos rfl]
theorem put_pos {kvs : List (Key × V)} {k : Key} {v w : V} (h : valV kvs k = some w) : putK kvs k v = kvs.map fun kv => if kv.1 = k then (kv.1, v) else kv := by
  unfold putK
  rw [valV_any, h]
  rfl
theorem bp_at {i : Int} : putK (bagK c at_ rest mixed count) (.inr "at") (.int i) = bagK c i rest mixed count := by
  rw [put_pos bv_at]
  unfold bagK
  simp only [List.map_cons, List.map_nil, if_neg (key_ne (show (("cells" : Str) == "at") = false by decide +kernel)), if_neg (key_ne (show (("rest" : Str) == "at") = false by decide +kernel)), if_neg (key_ne (show (("mixed" : Str) == "at") = false by decide +kernel)), if_neg (key_ne (show (("count" : Str) == "at") = false by decide +kernel)), if_true]
theorem bp_rest {i : Int} : putK (bagK c at_ rest mixed count) (.inr "rest") (.int i) = bagK c at_ i mixed count := by
  rw [put_pos bv_rest]
  unfold bagK
  simp only [List.map_cons, List.map_nil, if_neg (key_ne (show (("cells" : Str) == "rest") = false by decide +kernel)), if_neg (key_ne (show (("at" : Str) == "rest") = false by decide +kernel)), if_neg (key_ne (show (("mixed" : Str) == "rest") = false by decide +kernel)), if_neg (key_ne (show (("count" : Str) == "rest") = false by decide +kernel)), if_true]
theorem bp_mixed {i : Int} : putK (bagK c at_ rest mixed count) (.inr "mixed") (.int i) = bagK c at_ rest i count := by
  rw [put_pos bv_mixed]
  unfold bagK
  simp only [List.map_cons, List.map_nil, if_neg (key_ne (show (("cells" : Str) == "mixed") = false by decide +kernel)), if_neg (key_ne (show (("at" : Str) == "mixed") = false by decide +kernel)), if_neg (key_ne (show (("rest" : Str) == "mixed") = false by decide +kernel)), if_neg (key_ne (show (("count" : Str) == "mixed") = false by decide +kernel)), if_true]
theorem bp_count {i : Int} : putK (bagK c at_ rest mixed count) (.inr "count") (.int i) = bagK c at_ rest mixed i := by
  rw [put_pos bv_count]
  unfold bagK
  simp only [List.map_cons, List.map_nil, if_neg (key_ne (show (("cells" : Str) == "count") = false by decide +kernel)), if_neg (key_ne (show (("at" : Str) == "count") = false by decide +kernel)), if_neg (key_ne (show (("rest" : Str) == "count") = false by decide +kernel)), if_neg (key_ne (show (("mixed" : Str) == "count") = false by decide +kernel)), if_true]
variable {ns : List Int} {td ty tv : TE} {i : Nat}
theorem bag_get {P : V → Hp → Prop} {k : Str} {v : V} (h : BagIs H b c ns at_ rest mixed count) (e : valV (bagK c at_ rest mixed count) (.inr k) = some v) (q : P v H) : ∃ a w, V.ref b = V.ref a ∧ DGet H a (.str k) (some w) ∧ P w H :=
  ⟨b, v, rfl, by rw [← e]; exact DGet.k (k := .inr k) h.d, q⟩
theorem bag_put {P : Hp → Prop} {k : Str} {v : V} {kvs : List (Key × V)} (h : BagIs H b c ns at_ rest mixed count) (e : putK (bagK c at_ rest mixed count) (.inr k) v = kvs) (q : P (upd H b (.dK kvs))) : ∃ a H', V.ref b = V.ref a ∧ DPut H a (.str k) v H' ∧ P H' :=
  ⟨b, _, rfl, DPut.k (k := .inr k) h.d (by show 5 < sizeLine; decide), by rw [e]; exact q⟩
theorem bag_upd {a' r' m' k' : Int} (h : BagIs H b c ns at_ rest mixed count) (n : 0 ≤ a') : BagIs (upd H b (.dK (bagK c a' r' m' k'))) b c ns a' r' m' k' ∧ Kb b H (upd H b (.dK (bagK c a' r' m' k'))) := by
  have x : BagIs (upd H b (.dK (bagK c a' r' m' k'))) b c ns a' r' m' k' := ⟨upd_same, by rw [upd_ne (ne_of h.l h.d (by intro z; cases z))]; exact h.l, n, h.sz⟩
  exact ⟨x, ⟨c, ⟨_, _, _, _, _, h⟩, ⟨_, _, _, _, _, x⟩⟩, fun a o na e => by rw [upd_ne na]; exact e⟩
theorem s_bget {k : Str} {v : V} {σ : L2.St} {Q : VK} (h : BagIs H b c ns at_ rest mixed count) (hv : σ[i]? = some (some (.ref b))) (e : valV (bagK c at_ rest mixed count) (.inr k) = some v) (q : Q v H) : tDGet (tVar i) (tC (.str k)) σ H Q :=
  ⟨_, hv, b, v, rfl, by rw [← e]; exact DGet.k (k := .inr k) h.d, q⟩
theorem s_bput {k : Str} {w : V} {a' r' m' k' : Int} {P : Hp → Prop} (h : BagIs H b c ns at_ rest mixed count) (e : putK (bagK c at_ rest mixed count) (.inr k) w = bagK c a' r' m' k') (z : 0 ≤ a') (q : ∀ H', BagIs H' b c ns a' r' m' k' → Kb b H H' → P H') : ∃ a H', V.ref b = V.ref a ∧ DPut H a (.str k) w H' ∧ P H' :=
  ⟨b, _, rfl, DPut.k (k := .inr k) h.d (by show 5 < sizeLine; decide), by rw [e]; exact q _ (bag_upd h z).1 (bag_upd h z).2⟩
end
theorem valV_no {kvs : List (Key × V)} {k : Key} (h : ∀ kv ∈ kvs, kv.1 ≠ k) : valV kvs k = none := by
  induction kvs with
  | nil => rfl
  | cons a r ih => rw [valV_neg (h a List.mem_cons_self)]; exact ih fun kv m => h kv (List.mem_cons_of_mem _ m)
theorem fold_new : ∀ (kvs acc : List (Key × V)), ((acc ++ kvs).map (·.1)).Nodup → kvs.foldl (fun acc kv => putK acc kv.1 kv.2) acc = acc ++ kvs
  | [], acc, _ => by simp
  | (k, v) :: r, acc, h => by
    have z : valV acc k = none := valV_no fun kv m e => by
      rw [List.map_append, List.nodup_append] at h
      exact h.2.2 kv.1 (List.mem_map.mpr ⟨kv, m, rfl⟩) k (by simp) e
    rw [List.foldl_cons, putK_new v z, fold_new r (acc ++ [(k, v)]) (by rw [List.append_assoc]; exact h), List.append_assoc]
    rfl
/-- a dict display whose keys differ -/
theorem merge_new {kvs : List (Key × V)} (h : (kvs.map (·.1)).Nodup) : mergeK [] kvs = kvs := fold_new kvs [] h
/-- a call of a def that draws: any number below many -/
def spPick : Sp := fun vs H Q E => ∃ (b : Addr) (m : Int), vs = [.ref b, .int m] ∧ BagAt H b ∧ 0 < m ∧ m.natAbs.log2 < 9000 ∧ ∀ r H', 0 ≤ r → r < m → Kb b H H' → Q (.int r) H'
end Uv

set_option Elab.async false
set_option linter.all false
set_option maxRecDepth 100000
set_option maxHeartbeats 4000000
namespace Uv
open PySem PySem.Spec L2
open PyProof.Rows hiding St
def uLen (K : PySem.W.Frag) : List V → Hp → VK → Prop := fun xs H Q => match xs with
  | [.str z] => z.length ≤ sizeLine ∧ Q (.int (z.length : Int)) H
  | [.ref p] => ∃ ys, (SqL K H p ys ∨ SqT K H p ys) ∧ Q (.int (ys.length : Int)) H
  | _ => False
def uAbs : List V → Hp → VK → Prop := fun xs H Q => match xs with
  | [.int i] => Q (.int (i.natAbs : Int)) H
  | _ => False
def uMax : List V → Hp → VK → Prop := fun xs H Q => match xs with
  | [.int i, .int j] => Q (.int (max i j)) H
  | _ => False
def uMin : List V → Hp → VK → Prop := fun xs H Q => match xs with
  | [.int i, .int j] => Q (.int (min i j)) H
  | _ => False
def uGcd : List V → Hp → VK → Prop := fun xs H Q => match xs with
  | [.int i, .int j] => Q (.int (Int.gcd i j : Int)) H
  | _ => False
def uInS (neg : Bool) : R2 := fun x y H Q => match x, y with
  | .str a, .str b => ∃ c, a = ⟨#[c]⟩ ∧ Q (.bl (neg.xor (decide (c ∈ b.cps.toList)))) H
  | _, _ => False
section
variable {X : Cx}
theorem call_uLen : CallR X (.builtin "len") (uLen X.K) := by
  intro pins s σ H xs us Q I r h
  match xs, h with
  | [.str z], h => exact call_len pins s σ H _ us Q I r ⟨.str z, z.length, rfl, ⟨h.1, rfl⟩, h.2⟩
  | [.ref p], h =>
    obtain ⟨ys, h1, h2⟩ := h
    refine call_len pins s σ H _ us Q I r ⟨.ref p, ys.length, rfl, ?_, h2⟩
    rcases h1 with h1 | h1
    · exact .inl ⟨ys, h1, rfl⟩
    · exact .inr ⟨ys, h1, rfl⟩
theorem call_uAbs : CallR X (.builtin "abs") uAbs := by
  intro pins s σ H xs us Q I r h
  match xs, h with
  | [.int i], h =>
    refine call_abs pins s σ H _ us Q I r ⟨i, rfl, ?_⟩
    have e : (if i < 0 then -i else i) = (i.natAbs : Int) := by split <;> omega
    rw [e]
    exact h
theorem call_uMax (hc : X.calm = true) : CallR X (.builtin "max") uMax := by
  intro pins s σ H xs us Q I r h
  match xs, h with
  | [.int i, .int j], h =>
    refine call_max2 hc pins s σ H _ us Q I r ⟨i, j, rfl, ?_⟩
    have e : (if j > i then j else i) = max i j := by split <;> omega
    rw [e]
    exact h
theorem call_uMin (hc : X.calm = true) : CallR X (.builtin "min") uMin := by
  intro pins s σ H xs us Q I r h
  match xs, h with
  | [.int i, .int j], h =>
    refine call_min2 hc pins s σ H _ us Q I r ⟨i, j, rfl, ?_⟩
    have e : (if j < i then j else i) = min i j := by split <;> omega
    rw [e]
    exact h
theorem call_uGcd : CallR X (.builtin "math.gcd") uGcd := by
  intro pins s σ H xs us Q I r h
  match xs, h with
  | [.int i, .int j], h => exact cr_gcd pins s σ H _ us Q I r ⟨i, j, rfl, h⟩
theorem op_uIn : OpR X (compareOp .In) (uInS false) := by
  intro pins s σ H x y u v Q I rx ry h
  cases x with
  | str a =>
    cases y with
    | str b =>
      obtain ⟨c, rfl, q⟩ := h
      exact op_in_sign pins s σ H _ _ _ _ Q I rx ry ⟨c, b, rfl, rfl, by simpa using q⟩
    | _ => exact h.elim
  | _ => exact h.elim
theorem op_uNotIn : OpR X (compareOp .NotIn) (uInS true) := by
  intro pins s σ H x y u v Q I rx ry h
  cases x with
  | str a =>
    cases y with
    | str b =>
      obtain ⟨c, rfl, q⟩ := h
      exact op_notIn_sign pins s σ H _ _ _ _ Q I rx ry ⟨c, b, rfl, rfl, by simpa using q⟩
    | _ => exact h.elim
  | _ => exact h.elim
/-- a module's constant -/
theorem pe_gS {x z : Str} {pos : Pos} (h : ∃ t, X.mg x = some (.str z t)) (hg : Gl X x := by rfl) (hd : (x == ("__debug__" : Str)) = false := by decide) : PE X (.Name x pos) (tC (.str z)) := by
  obtain ⟨t, h⟩ := h
  exact pe_glob hg h ⟨t, rfl⟩ hd
theorem pe_gI {x : Str} {i : Int} {pos : Pos} (h : ∃ t, X.mg x = some (.int i t)) (hg : Gl X x := by rfl) (hd : (x == ("__debug__" : Str)) = false := by decide) : PE X (.Name x pos) (tC (.int i)) := by
  obtain ⟨t, h⟩ := h
  exact pe_glob hg h ⟨t, rfl⟩ hd
theorem pe_gR {x : Str} {a : Addr} {pos : Pos} (h : X.mg x = some (.ref a)) (hg : Gl X x := by rfl) (hd : (x == ("__debug__" : Str)) = false := by decide) : PE X (.Name x pos) (tC (.ref a)) := pe_glob hg h rfl hd
end
section
variable {σ : L2.St} {H : Hp} {Q : VK} {QB : Bool → Hp → Prop} {D : Ends} {ta tb te td ty tv : TE} {v x y : V} {i : Nat} {K : PySem.W.Frag}
theorem s_dget (h : td σ H fun x H1 => ty σ H1 fun y H2 => ∃ a v, x = .ref a ∧ DGet H2 a y (some v) ∧ Q v H2) : tDGet td ty σ H Q := h
theorem s_dput (h : tv σ H fun v H1 => td σ H1 fun x H2 => ty σ H2 fun y H3 => ∃ a H4, x = .ref a ∧ DPut H3 a y v H4 ∧ D.nx σ H4) : sDPut td ty tv D σ H := h
theorem s_mod {a b : Int} (c : 0 < b) (h : Q (.int (a % b)) H) : rI (fun _ j => 0 < j) (fun i j => .int (i % j)) (.int a) (.int b) H Q := ⟨a, b, rfl, rfl, c, h⟩
theorem s_pow {a b : Int} (c : CPow a b) (h : Q (.int (a ^ b.toNat)) H) : rI CPow (fun i j => .int (i ^ j.toNat)) (.int a) (.int b) H Q := ⟨a, b, rfl, rfl, c, h⟩
theorem s_int {a : Int} (h : Q (.int a) H) : uInt [.int a] H Q := h
theorem s_intB {b : Bool} (h : Q (.int (if b then 1 else 0)) H) : uInt [.bl b] H Q := h
theorem s_intS {a : Str} {n : Int} (e : PySem.intText? a = some n) (l : a.length ≤ 640) (h : Q (.int n) H) : uInt [.str a] H Q := ⟨n, e, l, h⟩
theorem s_strI {a : Int} (c : a.natAbs.log2 < 1920) (h : Q (.str (toString a)) H) : uStr [.int a] H Q := ⟨c, h⟩
theorem s_strS {a : Str} (h : Q (.str a) H) : uStr [.str a] H Q := h
theorem s_lenS {z : Str} (c : z.length ≤ sizeLine) (h : Q (.int (z.length : Int)) H) : uLen K [.str z] H Q := ⟨c, h⟩
theorem s_lenL {p : Addr} {ys : List V} (c : SqL K H p ys) (h : Q (.int (ys.length : Int)) H) : uLen K [.ref p] H Q := ⟨ys, .inl c, h⟩
theorem s_lenT {p : Addr} {ys : List V} (c : SqT K H p ys) (h : Q (.int (ys.length : Int)) H) : uLen K [.ref p] H Q := ⟨ys, .inr c, h⟩
theorem s_abs {a : Int} (h : Q (.int (a.natAbs : Int)) H) : uAbs [.int a] H Q := h
theorem s_max {a b : Int} (h : Q (.int (max a b)) H) : uMax [.int a, .int b] H Q := h
theorem s_min {a b : Int} (h : Q (.int (min a b)) H) : uMin [.int a, .int b] H Q := h
theorem s_gcd {a b : Int} (h : Q (.int (Int.gcd a b : Int)) H) : uGcd [.int a, .int b] H Q := h
theorem s_inS {neg : Bool} {c : Nat} {b : Str} (h : Q (.bl (neg.xor (decide (c ∈ b.cps.toList)))) H) : uInS neg (.str ⟨#[c]⟩) (.str b) H Q := ⟨c, rfl, h⟩
theorem s_chain {r r' : R2} {tc : TE} (h : ta σ H fun x H1 => tb σ H1 fun y H2 => r x y H2 fun z H3 => ∃ k, z = .bl k ∧ (if k = true then tc σ H3 fun w' H4 => r' y w' H4 Q else Q (.bl false) H3)) : tChain r r' ta tb tc σ H Q := h
theorem s_sl {r : V → Option Int → Option Int → Hp → VK → Prop} {tl th : TO} (h : te σ H fun x H1 => tl σ H1 fun l H2 => th σ H2 fun u H3 => r x l u H3 Q) : tSl r te tl th σ H Q := h
theorem s_noP {QO : Option Int → Hp → Prop} (h : QO none H) : tNoPart σ H QO := h
theorem s_part {QO : Option Int → Hp → Prop} (h : te σ H fun x H1 => ∃ i, x = .int i ∧ QO (some i) H1) : tPart te σ H QO := h
theorem s_exI {a : Int} {P : Int → Prop} (h : P a) : ∃ i, V.int a = V.int i ∧ P i := ⟨a, rfl, h⟩
theorem s_slS {z : Str} {lo hi : Option Int} (c : z.length ≤ sizeLine) (h : Q (.str (cutS z lo hi)) H) : uSl K (.str z) lo hi H Q := ⟨c, h⟩
theorem s_isN (h : Q (.bl (decide (x = .non))) H) : (fun (x y : V) (H : Hp) (Q : VK) => y = .non ∧ Q (.bl (decide (x = .non))) H) x .non H Q := ⟨rfl, h⟩
end
end Uv

set_option Elab.async false
set_option linter.all false
set_option maxRecDepth 100000
set_option maxHeartbeats 4000000
namespace Uv
open PySem PySem.Spec L2
open PyProof.Rows hiding St
/-! ### a joint: the rest of a suite is read once -/
def tSeqJ (t u : TS) : TS := fun D σ H => t { D with nx := u D } σ H
section
variable {X : Cx} {st : Stmt} {rest : List Stmt} {t u : TS}
theorem pss_consJ (h1 : PS X st t) (h2 : PSs X rest u) : PSs X (st :: rest) (tSeqJ t u) := pss_cons h1 h2
end
section
variable {D : Ends} {σ : L2.St} {H : Hp}
theorem s_seqJ {s1 s2 : TS} (M : L2.St → Hp → Prop) (h1 : ∀ σ H, M σ H → s2 D σ H) (h2 : ∀ R : L2.St → Hp → Prop, (∀ σ H, M σ H → R σ H) → s1 { D with nx := R } σ H) : tSeqJ s1 s2 D σ H := h2 _ h1
theorem s_J {s1 s2 : TS} (h : tSeqJ s1 s2 D σ H) : tSeqJ s1 s2 D σ H := h
/-! ### for -/
def LoopR (J : It) (g : TG) (tb : TS) : TS := fun D σ H => ∃ W : Nat → Nat → L2.St → Hp → Prop, (∃ m, W 0 m σ H) ∧ ∀ i m σ H, W i m σ H →
  (J.stop i H ∧ D.nx σ H) ∨ (J.go i H ∧ ∃ N : L2.St → Hp → Prop, (∀ σ' H', N σ' H' → ∃ m', m' < m ∧ W (i + 1) m' σ' H') ∧ ∀ x H', J.yld i H x H' → g x σ H' fun σ2 H2 => tb { D with nx := N, ct := N, bk := D.nx } σ2 H2)
theorem s_for {wi : TI} {g : TG} {tb : TS} (h : wi σ H fun J H1 => LoopR J g tb D σ H1) : tFor wi g tb D σ H := h
theorem loop_n {J : It} {g : TG} {tb : TS} (n : Nat) (I : Nat → L2.St → Hp → Prop) (h0 : I 0 σ H) (hs : ∀ σ H, I n σ H → J.stop n H) (hg : ∀ i σ H, I i σ H → i < n → J.go i H) (hx : ∀ σ H, I n σ H → D.nx σ H)
    (hb : ∀ i x σ H H', i < n → I i σ H → J.yld i H x H' → g x σ H' fun σ2 H2 => tb { D with nx := I (i + 1), ct := I (i + 1), bk := D.nx } σ2 H2) : LoopR J g tb D σ H := by
  refine ⟨fun i m σ H => i + m = n ∧ I i σ H, ⟨n, by omega, h0⟩, fun i m σ H ⟨e, h⟩ => ?_⟩
  by_cases z : i < n
  · exact .inr ⟨hg i σ H h z, I (i + 1), fun σ' H' h' => ⟨m - 1, by omega, by omega, h'⟩, fun x H' y => hb i x σ H H' z h y⟩
  · have : i = n := by omega
    subst this
    exact .inl ⟨hs σ H h, hx σ H h⟩
theorem loopL {K : PySem.W.Frag} {p : Addr} {xs : List V} {g : TG} {tb : TS} (I : Nat → L2.St → Hp → Prop) (h0 : I 0 σ H) (keep : ∀ i σ H, I i σ H → SqL K H p xs) (hx : ∀ σ H, I xs.length σ H → D.nx σ H)
    (hb : ∀ i x σ H, xs[i]? = some x → I i σ H → g x σ H fun σ2 H2 => tb { D with nx := I (i + 1), ct := I (i + 1), bk := D.nx } σ2 H2) : ∃ a, V.ref p = V.ref a ∧ (∃ xs, SqL K H a xs) ∧ LoopR (Itl K a) g tb D σ H := by
  refine ⟨p, rfl, ⟨xs, keep 0 σ H h0⟩, loop_n xs.length I h0 (fun σ H h => ⟨xs, keep _ σ H h, Nat.le_refl _⟩) (fun i σ H h z => ⟨xs, _, keep _ σ H h, List.getElem?_eq_getElem z⟩) hx fun i x σ H H' z h y => ?_⟩
  obtain ⟨rfl, y⟩ := y
  exact hb i x σ _ (y xs (keep _ σ _ h)) h
theorem loopT {K : PySem.W.Frag} {p : Addr} {xs : List V} {g : TG} {tb : TS} (I : Nat → L2.St → Hp → Prop) (h0 : I 0 σ H) (keep : ∀ i σ H, I i σ H → SqT K H p xs) (hx : ∀ σ H, I xs.length σ H → D.nx σ H)
    (hb : ∀ i x σ H, xs[i]? = some x → I i σ H → g x σ H fun σ2 H2 => tb { D with nx := I (i + 1), ct := I (i + 1), bk := D.nx } σ2 H2) : ∃ a, V.ref p = V.ref a ∧ (∃ xs, SqT K H a xs) ∧ LoopR (Itt K a) g tb D σ H := by
  refine ⟨p, rfl, ⟨xs, keep 0 σ H h0⟩, loop_n xs.length I h0 (fun σ H h => ⟨xs, keep _ σ H h, Nat.le_refl _⟩) (fun i σ H h z => ⟨xs, _, keep _ σ H h, List.getElem?_eq_getElem z⟩) hx fun i x σ H H' z h y => ?_⟩
  obtain ⟨rfl, y⟩ := y
  exact hb i x σ _ (y xs (keep _ σ _ h)) h
theorem loopS {z : Str} {g : TG} {tb : TS} (I : Nat → L2.St → Hp → Prop) (h0 : I 0 σ H) (hx : ∀ σ H, I z.length σ H → D.nx σ H)
    (hb : ∀ i c σ H, z.cps[i]? = some c → I i σ H → g (.str ⟨#[c]⟩) σ H fun σ2 H2 => tb { D with nx := I (i + 1), ct := I (i + 1), bk := D.nx } σ2 H2) : ∃ x, V.str z = V.str x ∧ LoopR (Its x) g tb D σ H := by
  refine ⟨z, rfl, loop_n z.cps.size I h0 (fun σ H h => Nat.le_refl _) (fun i σ H h q => q) hx fun i x σ H H' q h y => ?_⟩
  obtain ⟨rfl, c, e, rfl⟩ := y
  exact hb i c σ _ e h
theorem loopR {lo : Int} {n : Nat} {g : TG} {tb : TS} (I : Nat → L2.St → Hp → Prop) (h0 : I 0 σ H) (hx : ∀ σ H, I n σ H → D.nx σ H)
    (hb : ∀ i σ H, i < n → I i σ H → g (.int (lo + i)) σ H fun σ2 H2 => tb { D with nx := I (i + 1), ct := I (i + 1), bk := D.nx } σ2 H2) : LoopR (Itr lo n) g tb D σ H := by
  refine loop_n n I h0 (fun σ H h => Nat.le_refl _) (fun i σ H h q => q) hx fun i x σ H H' q h y => ?_
  obtain ⟨rfl, rfl⟩ := y
  exact hb i σ _ q h
theorem s_rng1 {g : TG} {tb : TS} {j : Int} (c : 0 ≤ j ∧ j < 2 ^ 62) (h : LoopR (Itr 0 j.toNat) g tb D σ H) : ∃ j' : Int, [V.int j] = [V.int j'] ∧ -(2 ^ 62) ≤ j' ∧ j' < 2 ^ 62 ∧ LoopR (Itr 0 j'.toNat) g tb D σ H := ⟨j, rfl, by omega, c.2, h⟩
/-! ### [.. for .. in ..] -/
def LcR (J : It) (g : TG) (tt : TT) (te : TE) (vs : List Nat) (Q : VK) : L2.St → Hp → Prop := fun σ H1 => ∀ D, H1 D = none → ∃ W : Nat → Nat → Hp → Prop, (∃ m, W 0 m (upd H1 D (.lst []))) ∧ ∀ i m H, W i m H →
  (J.stop i H ∧ Q (.ref D) H) ∨ (J.go i H ∧ ∃ Nx : Hp → Prop, (∀ H', Nx H' → ∃ m', m' < m ∧ W (i + 1) m' H') ∧ ∀ x H', J.yld i H x H' → g x (wipe σ vs) H' fun σ2 H2 => wipe σ2 vs = wipe σ vs ∧ tt σ2 H2 fun b H3 =>
    if b = true then te σ2 H3 fun y H4 => ∃ acc, H4 D = some (.lst acc) ∧ acc.length < sizeLine ∧ Nx (upd H4 D (.lst (acc ++ [y]))) else Nx H3)
theorem s_lc {wi : TI} {g : TG} {tt : TT} {te : TE} {vs : List Nat} {Q : VK} (h : wi σ H fun J H1 => LcR J g tt te vs Q σ H1) : tLc wi g tt te vs σ H Q := h
theorem ex_put {H1 H5 : Hp} {D : Addr} {o : HO} (n : H1 D = none) (e : Ex H1 H5) : Ex H1 (upd H5 D o) := fun a q z => by
  rw [upd_ne (fun y => by rw [y, n] at z; cases z)]
  exact e a q z
theorem lc_n {J : It} {g : TG} {tt : TT} {te : TE} {vs : List Nat} {Q : VK} (n : Nat) (I : Addr → Nat → List V → Hp → Prop) (h0 : ∀ D, H D = none → I D 0 [] (upd H D (.lst [])))
    (hs : ∀ D acc H, I D n acc H → J.stop n H) (hg : ∀ D i acc H, I D i acc H → i < n → J.go i H) (hx : ∀ D acc H', H D = none → I D n acc H' → Q (.ref D) H')
    (hb : ∀ D i x acc H2 H', H D = none → i < n → I D i acc H2 → J.yld i H2 x H' → g x (wipe σ vs) H' fun σ2 H3 => wipe σ2 vs = wipe σ vs ∧ tt σ2 H3 fun b H4 => if b = true then te σ2 H4 fun y H5 => ∃ acc, H5 D = some (.lst acc) ∧ acc.length < sizeLine ∧ ∃ acc', I D (i + 1) acc' (upd H5 D (.lst (acc ++ [y]))) else ∃ acc, I D (i + 1) acc H4) : LcR J g tt te vs Q σ H := by
  intro D hD
  refine ⟨fun i m H => i + m = n ∧ ∃ acc, I D i acc H, ⟨n, by omega, [], h0 D hD⟩, fun i m H' ⟨e, acc, h⟩ => ?_⟩
  by_cases z : i < n
  · exact .inr ⟨hg D i acc H' h z, fun H' => ∃ acc, I D (i + 1) acc H', fun H2 h' => ⟨m - 1, by omega, by omega, h'⟩, fun x H2 y => hb D i x acc H' H2 hD z h y⟩
  · have : i = n := by omega
    subst this
    exact .inl ⟨hs D acc H' h, hx D acc H' hD h⟩
/-- over a list, all of it kept -/
theorem lcL {K : PySem.W.Frag} {p : Addr} {xs : List V} {g : TG} {tt : TT} {te : TE} {vs : List Nat} {Q : VK} (hp : SqL K H p xs) (I : Addr → Nat → List V → Hp → Prop) (h0 : ∀ D, H D = none → I D 0 [] (upd H D (.lst [])))
    (he : ∀ D i acc H', I D i acc H' → Ex H H') (hx : ∀ D acc H', H D = none → I D xs.length acc H' → Q (.ref D) H')
    (hb : ∀ D i x acc H', H D = none → xs[i]? = some x → I D i acc H' → g x (wipe σ vs) H' fun σ2 H3 => wipe σ2 vs = wipe σ vs ∧ tt σ2 H3 fun b H4 => if b = true then te σ2 H4 fun y H5 => ∃ acc, H5 D = some (.lst acc) ∧ acc.length < sizeLine ∧ ∃ acc', I D (i + 1) acc' (upd H5 D (.lst (acc ++ [y]))) else ∃ acc, I D (i + 1) acc H4) : ∃ a, V.ref p = V.ref a ∧ (∃ xs, SqL K H a xs) ∧ LcR (Itl K a) g tt te vs Q σ H := by
  refine ⟨p, rfl, ⟨xs, hp⟩, lc_n xs.length I h0 (fun D acc H' h => ⟨xs, Evl.ex_l (he _ _ _ _ h) hp, Nat.le_refl _⟩) (fun D i acc H' h z => ⟨xs, _, Evl.ex_l (he _ _ _ _ h) hp, List.getElem?_eq_getElem z⟩) hx fun D i x acc H2 H' n z h y => ?_⟩
  obtain ⟨rfl, y⟩ := y
  exact hb D i x acc _ n (y xs (Evl.ex_l (he _ _ _ _ h) hp)) h
/-- over a range -/
theorem lcRng {lo : Int} {n : Nat} {g : TG} {tt : TT} {te : TE} {vs : List Nat} {Q : VK} (I : Addr → Nat → List V → Hp → Prop) (h0 : ∀ D, H D = none → I D 0 [] (upd H D (.lst []))) (hx : ∀ D acc H', H D = none → I D n acc H' → Q (.ref D) H')
    (hb : ∀ D i acc H', H D = none → i < n → I D i acc H' → g (.int (lo + i)) (wipe σ vs) H' fun σ2 H3 => wipe σ2 vs = wipe σ vs ∧ tt σ2 H3 fun b H4 => if b = true then te σ2 H4 fun y H5 => ∃ acc, H5 D = some (.lst acc) ∧ acc.length < sizeLine ∧ ∃ acc', I D (i + 1) acc' (upd H5 D (.lst (acc ++ [y]))) else ∃ acc, I D (i + 1) acc H4) : LcR (Itr lo n) g tt te vs Q σ H := by
  refine lc_n n I h0 (fun D acc H' h => Nat.le_refl _) (fun D i acc H' h z => z) hx fun D i x acc H2 H' nD z h y => ?_
  obtain ⟨rfl, rfl⟩ := y
  exact hb D i acc _ nD z h
theorem s_lcPut {Hd H5 : Hp} {d : Addr} {acc : List V} {y : V} {I : Addr → Nat → List V → Hp → Prop} {i : Nat} (h : H5 d = some (.lst acc)) (l : acc.length < sizeLine) (n : Hd d = none) (e : Ex Hd H5) (q : ∀ H6, Ex Hd H6 → (∀ a o, a ≠ d → H5 a = some o → H6 a = some o) → H6 d = some (.lst (acc ++ [y])) → I d i (acc ++ [y]) H6) :
    ∃ acc, H5 d = some (.lst acc) ∧ acc.length < sizeLine ∧ ∃ acc', I d i acc' (upd H5 d (.lst (acc ++ [y]))) := ⟨acc, h, l, _, q _ (ex_put n e) (fun a o z w => by rw [upd_ne z]; exact w) upd_same⟩
theorem s_if1 {P : Prop} {x : Bool} (h : x = true → P) (h2 : x = false → P) : P := by cases x <;> simp_all
theorem Ex.sl {K : PySem.W.Frag} {H H' : Hp} {p : Addr} {xs : List V} (h : SqL K H p xs) (e : Ex H H') : SqL K H' p xs := Evl.ex_l e h
theorem Ex.st {K : PySem.W.Frag} {H H' : Hp} {p : Addr} {xs : List V} (h : SqT K H p xs) (e : Ex H H') : SqT K H' p xs := Evl.ex_t e h
/-! ### while -/
theorem s_turn {tb : TS} {m : Nat} {W : Nat → L2.St → Hp → Prop} (h : tb { D with nx := fun σ' H' => ∃ m', m' < m ∧ W m' σ' H', ct := fun σ' H' => ∃ m', m' < m ∧ W m' σ' H', bk := D.nx } σ H) : ∃ N : L2.St → Hp → Prop, (∀ σ' H', N σ' H' → ∃ m', m' < m ∧ W m' σ' H') ∧ tb { D with nx := N, ct := N, bk := D.nx } σ H := ⟨_, fun _ _ h => h, h⟩
end
end Uv

set_option Elab.async false
set_option linter.all false
set_option maxRecDepth 100000
set_option maxHeartbeats 4000000
namespace Uv
open PySem PySem.Spec L2
open PyProof.Rows hiding St
/-! methods of a text with one text -/
def uM1 (C : Str → Str → Prop) (g : Str → Str → V) : V → List V → Hp → VK → Prop := fun x xs H Q => match x, xs with
  | .str a, [.str b] => C a b ∧ Q (g a b) H
  | _, _ => False
def uPart : V → List V → Hp → VK → Prop := fun x xs H Q => match x, xs with
  | .str a, [.str b] => (b.length == 0) = false ∧ a.length ≤ sizeLine ∧ ∀ p, H p = none → Q (.ref p) (upd H p (.tup [.str (Txt.partition a b).1, .str (Txt.partition a b).2.1, .str (Txt.partition a b).2.2]))
  | _, _ => False
def uSplit : V → List V → Hp → VK → Prop := fun x xs H Q => match x, xs with
  | .str a, [.str b] => (b.length == 0) = false ∧ a.length + 2 ≤ sizeLine ∧ ∀ p, H p = none → Q (.ref p) (upd H p (.lst ((Txt.split a b).map V.str)))
  | _, _ => False
def uIsB (neg : Bool) : R2 := fun x y H Q => match x, y with
  | .bl a, .bl b => Q (.bl (neg.xor (decide (a = b)))) H
  | _, _ => False
def uIsN : R2 := fun x y H Q => y = .non ∧ Q (.bl (decide (x = .non))) H
def uNotN : R2 := fun x y H Q => y = .non ∧ Q (.bl (!decide (x = .non))) H
def tJd (ts : List TE) : TE := fun σ H Q => tJs ts Str.empty σ H fun out H1 => Q (.str out) H1
def uList (K : PySem.W.Frag) : List V → Hp → VK → Prop := fun xs H Q => match xs with
  | [.ref p] => ∃ ys, (SqL K H p ys ∨ SqT K H p ys) ∧ ∀ l, H l = none → Q (.ref l) (upd H l (.lst ys))
  | _ => False
section
variable {X : Cx}
theorem mt_uSw : MtR X "str.startswith" (uM1 (fun _ _ => True) fun a b => .bl (Txt.startswith a b)) := by
  intro pins s σ H x xs v us Q I rx rs h
  match x, xs, h with
  | .str a, [.str b], h => exact mt_startswith pins s σ H _ _ v us Q I rx rs ⟨a, b, rfl, rfl, h.2⟩
theorem mt_uEw : MtR X "str.endswith" (uM1 (fun _ _ => True) fun a b => .bl (Txt.endswith a b)) := by
  intro pins s σ H x xs v us Q I rx rs h
  match x, xs, h with
  | .str a, [.str b], h => exact mt_endswith pins s σ H _ _ v us Q I rx rs ⟨a, b, rfl, rfl, h.2⟩
theorem mt_uFind : MtR X "str.find" (uM1 (fun _ _ => True) fun a b => .int (Txt.find a b)) := by
  intro pins s σ H x xs v us Q I rx rs h
  match x, xs, h with
  | .str a, [.str b], h => exact mt_find pins s σ H _ _ v us Q I rx rs ⟨a, b, rfl, rfl, h.2⟩
theorem mt_uCount : MtR X "str.count" (uM1 (fun _ _ => True) fun a b => .int (Txt.count a b)) := by
  intro pins s σ H x xs v us Q I rx rs h
  match x, xs, h with
  | .str a, [.str b], h => exact mt_count pins s σ H _ _ v us Q I rx rs ⟨a, b, rfl, rfl, h.2⟩
theorem mt_uPart : MtR X "str.partition" uPart := by
  intro pins s σ H x xs v us Q I rx rs h
  match x, xs, h with
  | .str a, [.str b], h => exact mt_partition pins s σ H _ _ v us Q I rx rs ⟨a, b, rfl, rfl, h⟩
theorem mt_uSplit : MtR X "str.split" uSplit := by
  intro pins s σ H x xs v us Q I rx rs h
  match x, xs, h with
  | .str a, [.str b], h => exact mt_split pins s σ H _ _ v us Q I rx rs ⟨a, b, rfl, rfl, h⟩
theorem op_uIsB : OpR X (compareOp .Is) (uIsB false) := by
  intro pins s σ H x y v u Q I rx ry h
  cases x with
  | bl a =>
    cases y with
    | bl b => exact op_is_bl pins s σ H _ _ _ _ Q I rx ry ⟨a, b, rfl, rfl, by simpa [uIsB] using h⟩
    | _ => exact h.elim
  | _ => exact h.elim
theorem op_uNotB : OpR X (compareOp .IsNot) (uIsB true) := by
  intro pins s σ H x y v u Q I rx ry h
  cases x with
  | bl a =>
    cases y with
    | bl b => exact op_isnot_bl pins s σ H _ _ _ _ Q I rx ry ⟨a, b, rfl, rfl, by simpa [uIsB] using h⟩
    | _ => exact h.elim
  | _ => exact h.elim
theorem op_uIsN : OpR X (compareOp .Is) uIsN := op_isN
theorem op_uNotN : OpR X (compareOp .IsNot) uNotN := op_notN
theorem pe_jd {v1 v2 : Expr} {rest : List Expr} {ts : List TE} {pos : Pos} (h : PJ X (v1 :: v2 :: rest) ts) : PE X (.JoinedStr (v1 :: v2 :: rest) pos) (tJd ts) := pe_joined h
theorem call_uList : CallR X (.type "list") (uList X.K) := by
  intro pins s σ H xs us Q I r h
  match xs, h with
  | [.ref p], ⟨ys, h1, h2⟩ => exact call_list_of pins s σ H _ us Q I r ⟨p, ys, rfl, h1, h2⟩
end
section
variable {σ : L2.St} {H : Hp} {Q : VK} {QB : Bool → Hp → Prop} {D : Ends} {ta tb to te td ty tv : TE} {v x y : V} {i : Nat} {K : PySem.W.Frag}
theorem s_m1 {r : V → List V → Hp → VK → Prop} (h : to σ H fun x H1 => (∃ a, x = .str a) ∧ te σ H1 fun y H2 => r x [y] H2 Q) : tM1 r to te σ H Q := h
theorem s_isS {a : Str} {P : Prop} (h : P) : (∃ b, V.str a = V.str b) ∧ P := ⟨⟨a, rfl⟩, h⟩
theorem s_um1 {g : Str → Str → V} {a b : Str} (h : Q (g a b) H) : uM1 (fun _ _ => True) g (.str a) [.str b] H Q := ⟨trivial, h⟩
theorem s_upart {a b : Str} (c : (b.length == 0) = false) (l : a.length ≤ sizeLine) (h : ∀ p, H p = none → Q (.ref p) (upd H p (.tup [.str (Txt.partition a b).1, .str (Txt.partition a b).2.1, .str (Txt.partition a b).2.2]))) : uPart (.str a) [.str b] H Q := ⟨c, l, h⟩
theorem s_usplit {a b : Str} (c : (b.length == 0) = false) (l : a.length + 2 ≤ sizeLine) (h : ∀ p, H p = none → Q (.ref p) (upd H p (.lst ((Txt.split a b).map V.str)))) : uSplit (.str a) [.str b] H Q := ⟨c, l, h⟩
theorem s_isB {neg a b : Bool} (h : Q (.bl (neg.xor (decide (a = b)))) H) : uIsB neg (.bl a) (.bl b) H Q := h
theorem s_isn (h : Q (.bl (decide (x = .non))) H) : uIsN x .non H Q := ⟨rfl, h⟩
theorem s_notn (h : Q (.bl (!decide (x = .non))) H) : uNotN x .non H Q := ⟨rfl, h⟩
theorem s_jd {ts : List TE} (h : tJs ts Str.empty σ H fun out H1 => Q (.str out) H1) : tJd ts σ H Q := h
theorem s_jn {acc : Str} {QS : Str → Hp → Prop} (h : QS acc H) : tJs [] acc σ H QS := h
theorem s_jc {t : TE} {ts : List TE} {acc : Str} {QS : Str → Hp → Prop} (h : t σ H fun x H1 => ∃ y : Str, x = .str y ∧ (acc ++ y).length ≤ sizeLine ∧ tJs ts (acc ++ y) σ H1 QS) : tJs (t :: ts) acc σ H QS := h
theorem s_fmt (h : te σ H fun x H1 => (∃ y : Str, x = .str y ∧ y.length ≤ sizeLine ∧ Q (.str y) H1) ∨ ∃ i : Int, x = .int i ∧ i.natAbs.log2 < 1920 ∧ Q (.str (toString i)) H1) : tFmt te σ H Q := h
theorem s_itl {R : It → Hp → Prop} (h : te σ H fun x H1 => ∃ a, x = .ref a ∧ (∃ xs, SqL K H1 a xs) ∧ R (Itl K a) H1) : iList K te σ H R := h
theorem s_itt {R : It → Hp → Prop} (h : te σ H fun x H1 => ∃ a, x = .ref a ∧ (∃ xs, SqT K H1 a xs) ∧ R (Itt K a) H1) : iTup K te σ H R := h
theorem s_its {R : It → Hp → Prop} (h : te σ H fun v H1 => ∃ x, v = .str x ∧ R (Its x) H1) : iStr te σ H R := h
theorem s_itr {R : It → Hp → Prop} {ts : TA} (h : ts σ H fun vs H1 => ∃ j : Int, vs = [.int j] ∧ -(2 ^ 62) ≤ j ∧ j < 2 ^ 62 ∧ R (Itr 0 j.toNat) H1) : iRng1 ts σ H R := h
theorem s_itr2 {R : It → Hp → Prop} {ts : TA} (h : ts σ H fun vs H1 => ∃ i j : Int, vs = [.int i, .int j] ∧ (-(2 ^ 62) ≤ i ∧ i < 2 ^ 62 ∧ -(2 ^ 62) ≤ j ∧ j < 2 ^ 62) ∧ R (Itr i (j - i).toNat) H1) : iRng2 ts σ H R := h
theorem s_disp {trs : List (TE × TE)} (h : ∀ p, H p = none → tPairs trs σ (upd H p (.dK [])) fun ps H2 => H2 p = some (.dK []) ∧ ∃ kvs : List (Key × V), ps = kvs.map (fun kv => (kV kv.1, kv.2)) ∧ kvs.length ≤ 15 ∧ Q (.ref p) (upd H2 p (.dK (mergeK [] kvs)))) : tDisp trs σ H Q := h
theorem s_prn {QP : List (V × V) → Hp → Prop} (h : QP [] H) : tPairs [] σ H QP := h
theorem s_prc {tk tv : TE} {r : List (TE × TE)} {QP : List (V × V) → Hp → Prop} (h : tk σ H fun x H1 => tv σ H1 fun y H2 => tPairs r σ H2 fun ps H3 => QP ((x, y) :: ps) H3) : tPairs ((tk, tv) :: r) σ H QP := h
theorem s_gt {p : Addr} {xs : List V} {n : Nat} {t : TGs} {R : L2.St → Hp → Prop} (hs : SqT K H p xs) (hl : xs.length = n) (h : t xs σ H R) : gTup K n t (.ref p) σ H R := ⟨p, xs, rfl, hs, hl, h⟩
theorem s_gc {t : TG} {u : TGs} {r : List V} {R : L2.St → Hp → Prop} (h : t v σ H fun σ' H' => u r σ' H' R) : gCons t u (v :: r) σ H R := ⟨v, r, rfl, h⟩
theorem s_gnil {R : L2.St → Hp → Prop} (h : R σ H) : gNil [] σ H R := ⟨rfl, h⟩
theorem s_yes (h : QB true H) : tYes σ H QB := h
theorem s_listL {p : Addr} {ys : List V} (hs : SqL K H p ys) (h : ∀ l, H l = none → Q (.ref l) (upd H l (.lst ys))) : uList K [.ref p] H Q := ⟨ys, .inl hs, h⟩
theorem s_listT {p : Addr} {ys : List V} (hs : SqT K H p ys) (h : ∀ l, H l = none → Q (.ref l) (upd H l (.lst ys))) : uList K [.ref p] H Q := ⟨ys, .inr hs, h⟩
theorem s_inT {p : Addr} {xs : List V} (h : SqT K H p xs) (fx : flatV x = true) (fs : xs.all flatV = true) (q : Q (.bl (inV x xs)) H) : rIn K false x (.ref p) H Q := ⟨p, xs, rfl, .inr h, fx, fs, q⟩
theorem s_inL {p : Addr} {xs : List V} (h : SqL K H p xs) (fx : flatV x = true) (fs : xs.all flatV = true) (q : Q (.bl (inV x xs)) H) : rIn K false x (.ref p) H Q := ⟨p, xs, rfl, .inl h, fx, fs, q⟩
/-- the field of the exception that the suite's name holds -/
theorem s_xfV {a C dd : Addr} {f : Str} {fs : List (Str × V)} (hv : σ[i]? = some (some (.ref a))) (e : H dd = some (.xd fs)) (el : fs.lookup f = some v) (q : Q v H) : tXf a (.ref C) (some dd) C f (tVar i) σ H Q := ⟨_, hv, rfl, rfl, dd, fs, v, rfl, e, el, q⟩
theorem s_raise {C : Addr} {fs : List Str} {W : WX} {ts : TA} (h : ts σ H fun vs H1 => vs.length = fs.length ∧ ∀ d, H1 d = none → W (.ref C) (some d) σ (upd H1 d (.xd (fs.zip vs).reverse))) : tRaiseX C fs W ts D σ H := h
theorem s_isXr {a dC dd C : Addr} {fs : List (Str × V)} {b : Bool} (e : H dd = some (.xd fs)) (ec : ExcC K dC) (hk : PySem.W.kitOne K (.ref dC) (.ref C) = some b) (q : Q (.bl b) H) : rIsX K a (.ref dC) (some dd) [.ref a, .ref C] H Q := ⟨dC, dd, fs, rfl, rfl, e, ec, .inl ⟨_, _, b, rfl, .own C, hk, q⟩⟩
theorem s_isXt {a dC dd : Addr} {n : String} {fs : List (Str × V)} {b : Bool} (e : H dd = some (.xd fs)) (ec : ExcC K dC) (hk : PySem.W.kitOne K (.ref dC) (.type n) = some b) (q : Q (.bl b) H) : rIsX K a (.ref dC) (some dd) [.ref a, .ty n] H Q := ⟨dC, dd, fs, rfl, rfl, e, ec, .inl ⟨_, _, b, rfl, .ty n, hk, q⟩⟩
/-- the clause whose class it is -/
theorem s_hit {X1 : WX} {cl : Cl} {r : List Cl} {cls : Value} {d : Option Addr} (hb : PySem.W.exmOne K cls cl.c = some true) (h : ∀ a, H a = none → cl.ts a cls d (endO D cl.i) (setO σ cl.i (some (.ref a))) H) : wCl K X1 D (cl :: r) cls d σ H := ⟨true, hb, fun _ => h, fun z => by cases z⟩
theorem s_miss {X1 : WX} {cl : Cl} {r : List Cl} {cls : Value} {d : Option Addr} (hb : PySem.W.exmOne K cls cl.c = some false) (h : wCl K X1 D r cls d σ H) : wCl K X1 D (cl :: r) cls d σ H := ⟨false, hb, (fun z => by cases z), fun _ => h⟩
end
end Uv

set_option Elab.async false
set_option linter.all false
set_option maxRecDepth 100000
set_option maxHeartbeats 4000000
namespace Uv
open PySem PySem.Spec L2
open PyProof.Rows hiding St
/-! ### terms that lay plain data -/
def DE (K : PySem.W.Frag) (σ : L2.St) (H0 : Hp) (te : TE) (d : PyData) : Prop := ∀ (H : Hp) (Q : VK), Ex H0 H → (∀ v H', Ex H H' → Dp K H' v d → Q v H') → te σ H Q
def DA (K : PySem.W.Frag) (σ : L2.St) (H0 : Hp) (ts : TA) (ds : List PyData) : Prop := ∀ (H : Hp) (Q : List V → Hp → Prop), Ex H0 H → (∀ vs H', Ex H H' → DpAll K H' vs ds → Q vs H') → ts σ H Q
section
variable {K : PySem.W.Frag} {σ : L2.St} {H0 H : Hp} {te : TE} {ts : TA} {d : PyData} {ds : List PyData} {Q : VK}
theorem de_non : DE K σ H0 (tC .non) .none := fun H Q _ h => h _ _ (exR H) .non
theorem de_bl (b : Bool) : DE K σ H0 (tC (.bl b)) (.bool b) := fun H Q _ h => h _ _ (exR H) (.bl b)
theorem de_int (i : Int) : DE K σ H0 (tC (.int i)) (.int i) := fun H Q _ h => h _ _ (exR H) (.int i)
theorem de_str (z : Str) : DE K σ H0 (tC (.str z)) (.str z) := fun H Q _ h => h _ _ (exR H) (.str z)
theorem de_neg (i : Int) : DE K σ H0 (tUn (rU fun i => .int (-i)) (tC (.int i))) (.int (-i)) := fun H Q _ h => ⟨i, rfl, h _ _ (exR H) (.int (-i))⟩
theorem da_nil : DA K σ H0 tNil [] := fun H Q _ h => h _ _ (exR H) .nil
theorem da_cons (h1 : DE K σ H0 te d) (h2 : DA K σ H0 ts ds) : DA K σ H0 (tCons te ts) (d :: ds) := fun H Q e h =>
  h1 H _ e fun v H1 e1 dv => h2 H1 _ (e.tr e1) fun vs H2 e2 dvs => h _ _ (e1.tr e2) (.cons (dp_ex e2 d v dv) dvs)
theorem dpa_length : ∀ {xs : List V} {ds : List PyData}, DpAll K H xs ds → xs.length = ds.length
  | _, _, .nil => rfl
  | _, _, .cons _ r => congrArg (· + 1) (dpa_length r)
theorem de_tup (h1 : DA K σ H0 ts ds) (l : ds.length ≤ 1000) : DE K σ H0 (tTup ts) (.tuple ds) := fun H Q e h =>
  h1 H _ e fun vs H1 e1 dvs => ⟨by rw [dpa_length dvs]; exact Nat.le_trans l (by decide), fun p n => h _ _ (e1.tr (exN n)) (.tup (.of upd_same) (dpa_ex (exN n) ds vs dvs))⟩
theorem de_lst (h1 : DA K σ H0 ts ds) (l : ds.length ≤ 1000) : DE K σ H0 (tLst ts) (.list ds) := fun H Q e h =>
  h1 H _ e fun vs H1 e1 dvs => ⟨by rw [dpa_length dvs]; exact Nat.le_trans l (by decide), fun p n => h _ _ (e1.tr (exN n)) (.lst (.of upd_same) (dpa_ex (exN n) ds vs dvs))⟩
/-- a list of data laid -/
theorem s_dlst (h1 : DA K σ H ts ds) (l : ds.length ≤ 1000) (q : ∀ p vs H', Ex H H' → H' p = some (.lst vs) → DpAll K H' vs ds → Q (.ref p) H') : tLst ts σ H Q :=
  h1 H _ (exR H) fun vs H1 e1 dvs => ⟨by rw [dpa_length dvs]; exact Nat.le_trans l (by decide), fun p n => q p vs _ (e1.tr (exN n)) upd_same (dpa_ex (exN n) ds vs dvs)⟩
theorem s_data (h1 : DE K σ H te d) (q : ∀ v H', Ex H H' → Dp K H' v d → Q v H') : te σ H Q := h1 H _ (exR H) q
/-- the same, found by the shape of the term -/
class DEc (K : PySem.W.Frag) (σ : L2.St) (H0 : Hp) (te : TE) (d : outParam PyData) : Prop where
  h : DE K σ H0 te d
class DAc (K : PySem.W.Frag) (σ : L2.St) (H0 : Hp) (n : Nat) (ts : TA) (ds : outParam (List PyData)) : Prop where
  h : DA K σ H0 ts ds
  l : ds.length ≤ n
instance : DEc K σ H0 (tC .non) .none := ⟨de_non⟩
instance (b : Bool) : DEc K σ H0 (tC (.bl b)) (.bool b) := ⟨de_bl b⟩
instance (i : Int) : DEc K σ H0 (tC (.int i)) (.int i) := ⟨de_int i⟩
instance (z : Str) : DEc K σ H0 (tC (.str z)) (.str z) := ⟨de_str z⟩
instance (i : Int) : DEc K σ H0 (tUn (rU fun i => .int (-i)) (tC (.int i))) (.int (-i)) := ⟨de_neg i⟩
instance {n : Nat} : DAc K σ H0 n tNil [] := ⟨da_nil, Nat.zero_le _⟩
instance {n : Nat} {te d ts ds} [h1 : DEc K σ H0 te d] [h2 : DAc K σ H0 n ts ds] : DAc K σ H0 (n + 1) (tCons te ts) (d :: ds) := ⟨da_cons h1.h h2.h, Nat.succ_le_succ h2.l⟩
instance {ts ds} [h : DAc K σ H0 100 ts ds] : DEc K σ H0 (tTup ts) (.tuple ds) := ⟨de_tup h.h (Nat.le_trans h.l (by decide))⟩
instance {ts ds} [h : DAc K σ H0 100 ts ds] : DEc K σ H0 (tLst ts) (.list ds) := ⟨de_lst h.h (Nat.le_trans h.l (by decide))⟩
theorem s_dl [h : DAc K σ H 100 ts ds] (q : ∀ p vs H', Ex H H' → H' p = some (.lst vs) → DpAll K H' vs ds → Q (.ref p) H') : tLst ts σ H Q := s_dlst h.h (Nat.le_trans h.l (by decide)) q
/-- list(x) of a tuple that stands -/
theorem de_listT {i : Nat} {p : Addr} {xs : List V} (hv : σ[i]? = some (some (.ref p))) (hs : SqT K H0 p xs) (hd : DpAll K H0 xs ds) : DEc K σ H0 (tCB (uList K) (tCons (tVar i) tNil)) (.list ds) :=
  ⟨fun H Q e h => ⟨_, hv, xs, .inr (Ex.st hs e), fun l n => h _ _ (exN n) (.lst (.of upd_same) (dpa_ex (Ex.tr e (exN n)) ds xs hd))⟩⟩
theorem dpa_get {xs : List V} {ds : List PyData} {i : Nat} {x : V} (h : DpAll K H xs ds) (e : xs[i]? = some x) : ∃ d, ds[i]? = some d ∧ d ∈ ds ∧ Dp K H x d := by
  induction h using DpAll.rec (motive_1 := fun _ _ _ => True) generalizing i with
  | nil => cases e
  | @cons v vs d ds hd hr _ ih =>
    cases i with
    | zero => cases e; exact ⟨d, rfl, List.mem_cons_self, hd⟩
    | succ i =>
      obtain ⟨d', h1, h2, h3⟩ := ih e
      exact ⟨d', h1, List.mem_cons_of_mem _ h2, h3⟩
  | _ => trivial
theorem dpa_app {xs ys : List V} {ds es : List PyData} (h : DpAll K H xs ds) (g : DpAll K H ys es) : DpAll K H (xs ++ ys) (ds ++ es) := by
  induction h using DpAll.rec (motive_1 := fun _ _ _ => True) with
  | nil => exact g
  | @cons v vs d ds hd hr _ ih => exact .cons hd ih
  | _ => trivial
end
end Uv

set_option Elab.async false
set_option linter.all false
set_option maxRecDepth 100000
set_option maxHeartbeats 4000000
namespace Uv
open PySem PySem.Spec L2
open PyProof.Rows hiding St
/-! ### the same rules with the written part by its name (a comprehension's block) -/
section
variable {X : Cx} {K : PySem.W.Frag}
theorem ix_seqK (e : X.K = K) : IxR X (rIx K) := by subst e; exact ix_seq
theorem op_uAddK (e : X.K = K) : OpR X (binaryOp .Add) (uAdd K) := by subst e; exact op_uAdd
theorem op_uMulK (e : X.K = K) : OpR X (binaryOp .Mult) (uMul K) := by subst e; exact op_uMul
theorem call_uLenK (e : X.K = K) : CallR X (.builtin "len") (uLen K) := by subst e; exact call_uLen
theorem call_uListK (e : X.K = K) : CallR X (.type "list") (uList K) := by subst e; exact call_uList
theorem call_isiK (e : X.K = K) : CallR X (.builtin "isinstance") (rIsi K) := by subst e; exact call_isi
theorem op_in_seqK (e : X.K = K) : OpR X (compareOp .In) (rIn K false) := by subst e; exact op_in_seq
theorem op_notIn_seqK (e : X.K = K) : OpR X (compareOp .NotIn) (rIn K true) := by subst e; exact op_notIn_seq
theorem op_uEqK (e : X.K = K) (hu : X.A.units + 64 < cLine) : OpR X (compareOp .Eq) (uEq K) := by subst e; exact op_uEq hu
theorem op_uNeK (e : X.K = K) (hu : X.A.units + 64 < cLine) : OpR X (compareOp .NotEq) (uNe K) := by subst e; exact op_uNe hu
theorem sl_uK (e : X.K = K) : SlR X (uSl K) := by subst e; exact sl_u
end
end Uv

set_option Elab.async false
set_option linter.all false
set_option maxRecDepth 100000
set_option maxHeartbeats 4000000
/-! zip of a list or a tuple with a list or a tuple (true: a list) -/
namespace Zx
open PySem PySem.Spec L2 RZ
open PyProof.Rows hiding St
/-- the iterator at it stands at i of l -/
def Ii (k : Bool) (h : Heap) (it l : Addr) (i : Nat) : Prop := bif k then h.IsListIter it l i else h.IsTupleIter it l i
def Is (k : Bool) (h : Heap) (l : Addr) (xs : Array Value) : Prop := bif k then h.IsList l xs else h.IsTuple l xs
def Sq (K : PySem.W.Frag) (k : Bool) (H : Hp) (a : Addr) (xs : List V) : Prop := bif k then SqL K H a xs else SqT K H a xs
theorem Ii.ext {k : Bool} {h h' : Heap} {it l b : Addr} {i : Nat} (x : Ii k h it l i) (hs : Heap.ExtBut b h h') (n : it ≠ b) : Ii k h' it l i := by
  cases k
  · exact Heap.IsTupleIter.extBut x hs n
  · exact Heap.IsListIter.extBut x hs n
theorem Ii.at_ {k : Bool} {h h' : Heap} {it l : Addr} {i : Nat} (x : Ii k h it l i) (e : ∀ o, h.get? it = some o → h'.get? it = some o) : Ii k h' it l i := by
  cases k
  · exact Heap.IsTupleIter.at x e
  · exact Heap.IsListIter.at x e
theorem Ii.ob {k : Bool} {h : Heap} {it l : Addr} {i : Nat} (x : Ii k h it l i) : ∃ o, h.get? it = some o ∧ ∀ (v : Option Value), o.data ≠ .cell v := by
  cases k <;> (obtain ⟨o, e, _, d⟩ := x; exact ⟨o, e, fun v q => by rw [d] at q; cases q⟩)
theorem Ii.lt {k : Bool} {h : Heap} {it l : Addr} {i : Nat} (x : Ii k h it l i) : it < h.objs.size := by obtain ⟨o, e, _⟩ := x.ob; exact Heap.lt_size e
theorem Is.ext {k : Bool} {h h' : Heap} {l b : Addr} {xs : Array Value} (x : Is k h l xs) (hs : Heap.ExtBut b h h') (n : l ≠ b) : Is k h' l xs := by
  cases k
  · exact Heap.IsTuple.extBut x hs n
  · exact Heap.IsList.extBut x hs n
theorem Is.lt {k : Bool} {h : Heap} {l : Addr} {xs : Array Value} (x : Is k h l xs) : l < h.objs.size := by
  cases k <;> (obtain ⟨o, e, _⟩ := x; exact Heap.lt_size e)
theorem Sq.is {X : Cx} {pins : List (Addr × Obj)} {σ : L2.St} {H : Hp} {s : Shared} {k : Bool} {a : Addr} {xs : List V} (I : Inv X pins σ H s) (q : Sq X.K k H a xs) : ∃ its, Vals xs its ∧ Is k s.heap a its.toArray := by
  cases k
  · obtain ⟨its, rv, p, _⟩ := I.tuple q; exact ⟨its, rv, p⟩
  · obtain ⟨its, rv, p, _⟩ := I.list q; exact ⟨its, rv, p.isList⟩
theorem Sq.inj {X : Cx} {pins : List (Addr × Obj)} {σ : L2.St} {H : Hp} {s : Shared} {k : Bool} {a : Addr} {xs ys : List V} (I : Inv X pins σ H s) (q : Sq X.K k H a xs) (r : Sq X.K k H a ys) : xs = ys := by
  cases k
  · exact I.tuple_inj q r
  · exact I.list_inj q r
section
variable {prog : Program} {w : World} {A : Around} {E : Value → Shared → Prop} {s : Shared}
theorem nx_item {k : Bool} {it l : Addr} {i : Nat} {items : Array Value} {x : Value} {Q : Value → Shared → Prop} (hit : Ii k s.heap it l i) (hl : Is k s.heap l items) (hx : items[i]? = some x)
    (hQ : ∀ h', Ii k h' it l (i + 1) → Heap.SameBut it s.heap h' → Q x { s with heap := h' }) : wpAny (model prog w) A (Builtin.SmallTypes.nextOf (.ref it)) Q E s := by
  cases k
  · exact nextOf_tuple_item hit hl hx hQ
  · exact wpAny_nextOf_list_item hit hl hx hQ
theorem nx_end {k : Bool} {it l : Addr} {i : Nat} {items : Array Value} {Q : Value → Shared → Prop} (hh : A.handled = none) (hit : Ii k s.heap it l i) (hl : Is k s.heap l items) (hx : items[i]? = none)
    (hE : ∀ h' e, Heap.ExtBut it s.heap h' → (∃ o, h'.get? e = some o ∧ o.cls = .type "StopIteration") → E (.ref e) { s with heap := h' }) : wpAny (model prog w) A (Builtin.SmallTypes.nextOf (.ref it)) Q E s := by
  cases k
  · exact nextOf_tuple_end hh hit hl hx hE
  · exact wpAny_nextOf_list_end hh hit hl hx hE
theorem z_item {j k : Bool} {z TI TO i1 i2 l1 l2 : Addr} {n1 n2 : Nat} {xs ys : Array Value} {x y a b : Value} {Q : Value → Shared → Prop} (D : ZipApart z TI TO i1 i2 l1 l2) (hz : IsZip s.heap z TI TO .none) (hTI : IsPair s.heap TI (.ref i1) (.ref i2)) (hTO : IsPair s.heap TO a b)
    (h1 : Ii j s.heap i1 l1 n1) (h2 : Ii k s.heap i2 l2 n2) (hl1 : Is j s.heap l1 xs) (hl2 : Is k s.heap l2 ys) (hx : xs[n1]? = some x) (hy : ys[n2]? = some y)
    (hQ : ∀ h', IsZip h' z TI TO (rawInt s.heap.objs.size) → IsPair h' TO x y → Ii j h' i1 l1 (n1 + 1) → Ii k h' i2 l2 (n2 + 1) → IsPair h' s.heap.objs.size x y → h'.objs.size = s.heap.objs.size + 1 →
      (∀ c o, c ≠ z → c ≠ TO → c ≠ i1 → c ≠ i2 → s.heap.get? c = some o → h'.get? c = some o) → Q (.ref s.heap.objs.size) { s with heap := h' }) :
    wpAny (model prog w) A (Builtin.«zip.__next__» ⟨[.ref z], []⟩) (fun fin s' => ∃ v, fin = .done (.ret v) ∧ Q v s') E s := by
  show wpAny _ _ (field (.ref z) 2 >>= _) _ _ _; refine wpAny_bind (wpAny_field hz rfl (x := .bool false) rfl ?_); show wpAny _ _ (field (.ref z) 3 >>= _) _ _ _
  refine wpAny_bind (wpAny_field hz rfl (x := .ref TI) rfl ?_); refine wpAny_bind (wpAny_seqItems hTI rfl ?_); show wpAny _ _ (Builtin.SmallTypes.ownedTupleIsFree (.ref z) >>= _) _ _ _
  refine wpAny_bind ?_; unfold Builtin.SmallTypes.ownedTupleIsFree; refine wpAny_bind (wpAny_field hz rfl (x := .none) rfl (wpAny_pure ?_)); simp only [if_true]
  refine wpAny_bind (wpAny_rule ?_); refine wpAny_bind (wpAny_field hz rfl (x := .ref TO) rfl ?_); refine wpAny_bind (wpAny_setField_rec hz (by simp) fun g1 z1 e1 => ?_)
  replace z1 : IsZip g1 z TI TO .ellipsis := z1
  refine wpAny_bind ?_; simp only [List.zipIdx_cons, List.zipIdx_nil, List.forIn_cons, List.forIn_nil]
  refine wpAny_bind (wpAny_bind (wpAny_onRaise ?_)); show wpAny _ _ (Builtin.SmallTypes.nextOf (.ref i1) >>= _) _ _ _
  refine wpAny_bind (nx_item (h1.ext e1.extBut D.i1z) (hl1.ext e1.extBut D.l1z) hx fun g2 a2 e2 => wpAny_pure ?_)
  have t2 : IsPair g2 TO a b := e2.extBut _ _ D.TOi1 (e1.extBut _ _ D.TOz hTO)
  refine wpAny_bind (wpAny_seqItems t2 rfl ?_); refine wpAny_bind (wpAny_updateSeq_pair t2 fun g3 t3 e3 => ?_)
  replace t3 : IsPair g3 TO x b := t3
  refine wpAny_bind (wpAny_letGo (wpAny_pure ?_)); refine wpAny_bind (wpAny_bind (wpAny_onRaise ?_)); show wpAny _ _ (Builtin.SmallTypes.nextOf (.ref i2) >>= _) _ _ _
  refine wpAny_bind (nx_item (((h2.ext e1.extBut D.i2z).ext e2.extBut D.i12.symm).ext e3.extBut D.TOi2.symm) (((hl2.ext e1.extBut D.l2z).ext e2.extBut D.l2i1).ext e3.extBut D.l2TO) hy fun g4 a4 e4 => wpAny_pure ?_)
  have t4 : IsPair g4 TO x b := e4.extBut _ _ D.TOi2 t3
  refine wpAny_bind (wpAny_seqItems t4 rfl ?_); refine wpAny_bind (wpAny_updateSeq_pair t4 fun g5 t5 e5 => ?_)
  replace t5 : IsPair g5 TO x y := t5
  refine wpAny_bind (wpAny_letGo (wpAny_pure (wpAny_pure ?_))); refine wpAny_bind (wpAny_seqItems t5 rfl ?_); refine wpAny_bind (wpAny_newTuple ?_)
  have hsz : g5.objs.size = s.heap.objs.size := by rw [e5.1, e4.1, e3.1, e2.1, e1.1]
  have z5 : IsZip g5 z TI TO .ellipsis := e5.extBut _ _ D.TOz.symm (e4.extBut _ _ D.i2z.symm (e3.extBut _ _ D.TOz.symm (e2.extBut _ _ D.i1z.symm z1)))
  have k5 : ∀ c o, c ≠ z → c ≠ TO → c ≠ i1 → c ≠ i2 → s.heap.get? c = some o → g5.get? c = some o := fun c o c1 c2 c3 c4 e => e5.extBut _ _ c2 (e4.extBut _ _ c4 (e3.extBut _ _ c2 (e2.extBut _ _ c3 (e1.extBut _ _ c1 e))))
  have a5 : Ii j g5 i1 l1 (n1 + 1) := ((a2.ext e3.extBut D.TOi1.symm).ext e4.extBut D.i12).ext e5.extBut D.TOi1.symm
  have b5 : Ii k g5 i2 l2 (n2 + 1) := a4.ext e5.extBut D.TOi2.symm
  have ltz : z < g5.objs.size := Heap.lt_size z5
  show wpAny _ _ (Builtin.SmallTypes.ownedTupleHandOut (.ref z) (.ref g5.objs.size) >>= _) _ _ _
  refine wpAny_bind ?_; unfold Builtin.SmallTypes.ownedTupleHandOut
  have z6 : IsZip (g5.push { cls := .type "tuple", data := .seq #[x, y] }) z TI TO .ellipsis := Heap.get?_push_of_some _ z5
  refine wpAny_bind (wpAny_setField_rec z6 (by simp) fun g7 z7 e7 => ?_)
  replace z7 : IsZip g7 z TI TO (rawInt g5.objs.size) := z7
  refine wpAny_setField_rec z7 (by simp) fun g8 z8 e8 => ?_
  replace z8 : IsZip g8 z TI TO (rawInt g5.objs.size) := z8
  have up : ∀ c o, c ≠ z → g5.get? c = some o → g8.get? c = some o := fun c o c1 e => e8.extBut _ _ c1 (e7.extBut _ _ c1 (Heap.get?_push_of_some _ e))
  have t8 : IsPair g8 g5.objs.size x y := e8.extBut _ _ (Nat.ne_of_gt ltz) (e7.extBut _ _ (Nat.ne_of_gt ltz) (Heap.get?_push_size _ rfl))
  have sz8 : g8.objs.size = g5.objs.size + 1 := by rw [e8.1, e7.1, Heap.size_push]
  rw [hsz] at z8 t8 sz8
  refine wpAny_pure ⟨_, rfl, ?_⟩; show Q (.ref g5.objs.size) _; rw [hsz]
  exact hQ g8 z8 (up _ _ D.TOz t5) (a5.at_ fun o e => up _ o D.i1z e) (b5.at_ fun o e => up _ o D.i2z e) t8 sz8 fun c o c1 c2 c3 c4 e => up c o c1 (k5 c o c1 c2 c3 c4 e)
theorem z_end {j k : Bool} {z TI TO i1 i2 l1 l2 : Addr} {n1 n2 : Nat} {xs ys : Array Value} {a b : Value} {Q : Fin → Shared → Prop} (hh : A.handled = none) (D : ZipApart z TI TO i1 i2 l1 l2) (hz : IsZip s.heap z TI TO .none) (hTI : IsPair s.heap TI (.ref i1) (.ref i2)) (hTO : IsPair s.heap TO a b)
    (h1 : Ii j s.heap i1 l1 n1) (h2 : Ii k s.heap i2 l2 n2) (hl1 : Is j s.heap l1 xs) (hl2 : Is k s.heap l2 ys) (hend : xs[n1]? = none ∨ ys[n2]? = none)
    (hE : ∀ h' e, (∀ c o, c ≠ z → c ≠ TO → c ≠ i1 → c ≠ i2 → s.heap.get? c = some o → h'.get? c = some o) → (∃ o, h'.get? e = some o ∧ o.cls = .type "StopIteration") → E (.ref e) { s with heap := h' }) : wpAny (model prog w) A (Builtin.«zip.__next__» ⟨[.ref z], []⟩) Q E s := by
  show wpAny _ _ (field (.ref z) 2 >>= _) _ _ _; refine wpAny_bind (wpAny_field hz rfl (x := .bool false) rfl ?_); show wpAny _ _ (field (.ref z) 3 >>= _) _ _ _
  refine wpAny_bind (wpAny_field hz rfl (x := .ref TI) rfl ?_); refine wpAny_bind (wpAny_seqItems hTI rfl ?_); show wpAny _ _ (Builtin.SmallTypes.ownedTupleIsFree (.ref z) >>= _) _ _ _
  refine wpAny_bind ?_; unfold Builtin.SmallTypes.ownedTupleIsFree; refine wpAny_bind (wpAny_field hz rfl (x := .none) rfl (wpAny_pure ?_)); simp only [if_true]
  refine wpAny_bind (wpAny_rule ?_); refine wpAny_bind (wpAny_field hz rfl (x := .ref TO) rfl ?_); refine wpAny_bind (wpAny_setField_rec hz (by simp) fun g1 z1 e1 => ?_)
  replace z1 : IsZip g1 z TI TO .ellipsis := z1
  refine wpAny_bind ?_; simp only [List.zipIdx_cons, List.zipIdx_nil, List.forIn_cons, List.forIn_nil]
  refine wpAny_bind (wpAny_bind (wpAny_onRaise ?_)); show wpAny _ _ (Builtin.SmallTypes.nextOf (.ref i1) >>= _) _ _ _
  have fin : ∀ (g : Heap) (e : Addr), IsZip g z TI TO .ellipsis → (∀ c o, c ≠ z → c ≠ TO → c ≠ i1 → c ≠ i2 → s.heap.get? c = some o → g.get? c = some o) → (∃ o, g.get? e = some o ∧ o.cls = .type "StopIteration") →
      ∀ {v : Value} {R : Unit → Shared → Prop}, (∀ g' , (∀ c o, c ≠ z → c ≠ TO → c ≠ i1 → c ≠ i2 → s.heap.get? c = some o → g'.get? c = some o) → (∃ o, g'.get? e = some o ∧ o.cls = .type "StopIteration") → R () { s with heap := g' }) → wpAny (model prog w) A (setField (.ref z) 0 v) R E { s with heap := g } := by
    intro g e zg kg ⟨oe, hoe, hce⟩ v R hR
    have hez : e ≠ z := fun q => by subst q; rw [zg] at hoe; cases hoe; simp at hce
    exact wpAny_setField_rec zg (by simp) fun g3 _ e3 => hR g3 (fun c o c1 c2 c3 c4 q => e3.extBut _ _ c1 (kg c o c1 c2 c3 c4 q)) ⟨oe, e3.extBut _ _ hez hoe, hce⟩
  cases hx : xs[n1]? with
  | none =>
    refine wpAny_bind (nx_end hh (h1.ext e1.extBut D.i1z) (hl1.ext e1.extBut D.l1z) hx fun g2 e e2 he => ?_)
    exact fin g2 e (e2 _ _ D.i1z.symm z1) (fun c o c1 _ c3 _ q => e2 _ _ c3 (e1.extBut _ _ c1 q)) he fun g' kg he' => hE g' e kg he'
  | some x =>
    have hy : ys[n2]? = none := by rcases hend with h | h; rw [hx] at h; cases h; exact h
    refine wpAny_bind (nx_item (h1.ext e1.extBut D.i1z) (hl1.ext e1.extBut D.l1z) hx fun g2 a2 e2 => wpAny_pure ?_)
    have t2 : IsPair g2 TO a b := e2.extBut _ _ D.TOi1 (e1.extBut _ _ D.TOz hTO)
    refine wpAny_bind (wpAny_seqItems t2 rfl ?_); refine wpAny_bind (wpAny_updateSeq_pair t2 fun g3 t3 e3 => ?_)
    refine wpAny_bind (wpAny_letGo (wpAny_pure ?_)); refine wpAny_bind (wpAny_bind (wpAny_onRaise ?_)); show wpAny _ _ (Builtin.SmallTypes.nextOf (.ref i2) >>= _) _ _ _
    refine wpAny_bind (nx_end hh (((h2.ext e1.extBut D.i2z).ext e2.extBut D.i12.symm).ext e3.extBut D.TOi2.symm) (((hl2.ext e1.extBut D.l2z).ext e2.extBut D.l2i1).ext e3.extBut D.l2TO) hy fun g4 e e4 he => ?_)
    exact fin g4 e (e4 _ _ D.i2z.symm (e3.extBut _ _ D.TOz.symm (e2.extBut _ _ D.i1z.symm z1))) (fun c o c1 c2 c3 c4 q => e4 _ _ c4 (e3.extBut _ _ c2 (e2.extBut _ _ c3 (e1.extBut _ _ c1 q)))) he fun g' kg he' => hE g' e kg he'
theorem py_item {j k : Bool} {z TI TO i1 i2 l1 l2 : Addr} {n1 n2 : Nat} {xs ys : Array Value} {x y a b : Value} {Q : Option Value → Shared → Prop} (D : ZipApart z TI TO i1 i2 l1 l2) (hz : IsZip s.heap z TI TO .none) (hTI : IsPair s.heap TI (.ref i1) (.ref i2)) (hTO : IsPair s.heap TO a b)
    (h1 : Ii j s.heap i1 l1 n1) (h2 : Ii k s.heap i2 l2 n2) (hl1 : Is j s.heap l1 xs) (hl2 : Is k s.heap l2 ys) (hx : xs[n1]? = some x) (hy : ys[n2]? = some y)
    (hQ : ∀ h', IsZip h' z TI TO (rawInt s.heap.objs.size) → IsPair h' TO x y → Ii j h' i1 l1 (n1 + 1) → Ii k h' i2 l2 (n2 + 1) → IsPair h' s.heap.objs.size x y → h'.objs.size = s.heap.objs.size + 1 →
      (∀ c o, c ≠ z → c ≠ TO → c ≠ i1 → c ≠ i2 → s.heap.get? c = some o → h'.get? c = some o) → Q (some (.ref s.heap.objs.size)) { s with heap := h' }) : wpAny (model prog w) A (pyNext (.ref z)) Q E s := by
  have hT : s.TypeIs (.ref z) "zip" := ⟨_, hz, rfl⟩
  unfold pyNext
  exact wpAny_bind (wpAny_attempt (wpAny_callSpecial?_slot (name := Str.ofString "__next__") hT F.slot_zip_next (wpAny_call_entry F.slot_zip_next hT F.entry_zip_next
    (z_item D hz hTI hTO h1 h2 hl1 hl2 hx hy fun h' a1 a2 a3 a4 a5 a6 a7 => wpAny_pure (hQ h' a1 a2 a3 a4 a5 a6 a7)) (F.args_zip_next_1 _))))
theorem py_end {j k : Bool} {z TI TO i1 i2 l1 l2 : Addr} {n1 n2 : Nat} {xs ys : Array Value} {a b : Value} {Q : Option Value → Shared → Prop} (hh : A.handled = none) (D : ZipApart z TI TO i1 i2 l1 l2) (hz : IsZip s.heap z TI TO .none) (hTI : IsPair s.heap TI (.ref i1) (.ref i2)) (hTO : IsPair s.heap TO a b)
    (h1 : Ii j s.heap i1 l1 n1) (h2 : Ii k s.heap i2 l2 n2) (hl1 : Is j s.heap l1 xs) (hl2 : Is k s.heap l2 ys) (hend : xs[n1]? = none ∨ ys[n2]? = none)
    (hQ : ∀ h', (∀ c o, c ≠ z → c ≠ TO → c ≠ i1 → c ≠ i2 → s.heap.get? c = some o → h'.get? c = some o) → Q none { s with heap := h' }) : wpAny (model prog w) A (pyNext (.ref z)) Q E s := by
  have hT : s.TypeIs (.ref z) "zip" := ⟨_, hz, rfl⟩
  unfold pyNext
  refine wpAny_bind (wpAny_attempt (wpAny_callSpecial?_slot (name := Str.ofString "__next__") hT F.slot_zip_next (wpAny_call_entry F.slot_zip_next hT F.entry_zip_next (z_end hh D hz hTI hTO h1 h2 hl1 hl2 hend fun h' e hk he => ?_) (F.args_zip_next_1 _))))
  obtain ⟨o, ho, hc⟩ := he
  exact wpAny_bind (wpAny_isInstance (T := "StopIteration") (b := true) ⟨o, ho, hc⟩ isSubtype_stop (wpAny_pure (hQ _ hk)))
/-! zip(list, tuple), zip(tuple, list) made -/
def kn (k : Bool) : String := bif k then "list_iterator" else "tuple_iterator"
def hp1 (j : Bool) (h : Heap) (l1 : Addr) : Heap := h.push { cls := .type (kn j), data := .fields #[.ref l1, .int 0 0] }
def hp2 (j k : Bool) (h : Heap) (l1 l2 : Addr) : Heap := (hp1 j h l1).push { cls := .type (kn k), data := .fields #[.ref l2, .int 0 0] }
def hp3 (j k : Bool) (h : Heap) (l1 l2 : Addr) : Heap := (hp2 j k h l1 l2).push { cls := .type "tuple", data := .seq #[.ref h.objs.size, .ref (hp1 j h l1).objs.size] }
def hp4 (j k : Bool) (h : Heap) (l1 l2 : Addr) : Heap := (hp3 j k h l1 l2).push { cls := .type "tuple", data := .seq #[.none, .none] }
def hp5 (j k : Bool) (h : Heap) (l1 l2 : Addr) : Heap := (hp4 j k h l1 l2).push { cls := .type "zip", data := .fields #[.none, .bool false, .bool false, .ref (hp2 j k h l1 l2).objs.size, .ref (hp3 j k h l1 l2).objs.size] }
theorem mk_lt (l1 l2 : Addr) (xs ys : Array Value) : Meets (Builtin.«zip.__new__» ⟨[.type "zip", .ref l1, .ref l2], []⟩) (fun _ R s => s.heap.IsList l1 xs ∧ s.heap.IsTuple l2 ys ∧ R (.ok (.ret (.ref (hp4 true false s.heap l1 l2).objs.size))) { s with heap := hp5 true false s.heap l1 l2 }) :=
  .of_wp fun prog w A R s h => by
    obtain ⟨hp, g, d, tk, os⟩ := s; obtain ⟨hl1, hl2, h⟩ := h
    have hsub := sub_zip
    have q1 : Heap.IsList (Shared.heap ⟨hp, g, d, tk, os⟩) l1 xs := hl1
    have q2 : Heap.IsTuple (Shared.heap ⟨hp.push { cls := .type "list_iterator", data := .fields #[.ref l1, .int 0 0] }, g, d, tk, os⟩) l2 ys := Heap.IsTuple.push hl2 _
    wp_walk using wpAny_pyIter_list q1, wpAny_pyIter_tuple q2
    exact ⟨_, rfl, h⟩
theorem mk_tl (l1 l2 : Addr) (xs ys : Array Value) : Meets (Builtin.«zip.__new__» ⟨[.type "zip", .ref l1, .ref l2], []⟩) (fun _ R s => s.heap.IsTuple l1 xs ∧ s.heap.IsList l2 ys ∧ R (.ok (.ret (.ref (hp4 false true s.heap l1 l2).objs.size))) { s with heap := hp5 false true s.heap l1 l2 }) :=
  .of_wp fun prog w A R s h => by
    obtain ⟨hp, g, d, tk, os⟩ := s; obtain ⟨hl1, hl2, h⟩ := h
    have hsub := sub_zip
    have q1 : Heap.IsTuple (Shared.heap ⟨hp, g, d, tk, os⟩) l1 xs := hl1
    have q2 : Heap.IsList (Shared.heap ⟨hp.push { cls := .type "tuple_iterator", data := .fields #[.ref l1, .int 0 0] }, g, d, tk, os⟩) l2 ys := Heap.IsList.push hl2 _
    wp_walk using wpAny_pyIter_tuple q1, wpAny_pyIter_list q2
    exact ⟨_, rfl, h⟩
theorem call_z {j k : Bool} {l1 l2 : Addr} {xs ys : Array Value} {Q : Value → Shared → Prop} (hl1 : Is j s.heap l1 xs) (hl2 : Is k s.heap l2 ys)
    (h : ∀ h', IsZip h' (s.heap.objs.size + 4) (s.heap.objs.size + 2) (s.heap.objs.size + 3) .none → IsPair h' (s.heap.objs.size + 2) (.ref s.heap.objs.size) (.ref (s.heap.objs.size + 1)) → IsPair h' (s.heap.objs.size + 3) .none .none →
      Ii j h' s.heap.objs.size l1 0 → Ii k h' (s.heap.objs.size + 1) l2 0 → h'.objs.size = s.heap.objs.size + 5 → (∀ c o, s.heap.get? c = some o → h'.get? c = some o) → Q (.ref (s.heap.objs.size + 4)) { s with heap := h' }) : wpAny (model prog w) A (call (.type "zip") [.ref l1, .ref l2]) Q E s := by
  have key : ∀ j k, (Ii j (hp5 j k s.heap l1 l2) s.heap.objs.size l1 0 ∧ Ii k (hp5 j k s.heap l1 l2) (s.heap.objs.size + 1) l2 0) → (∀ h', IsZip h' (s.heap.objs.size + 4) (s.heap.objs.size + 2) (s.heap.objs.size + 3) .none → IsPair h' (s.heap.objs.size + 2) (.ref s.heap.objs.size) (.ref (s.heap.objs.size + 1)) → IsPair h' (s.heap.objs.size + 3) .none .none →
      Ii j h' s.heap.objs.size l1 0 → Ii k h' (s.heap.objs.size + 1) l2 0 → h'.objs.size = s.heap.objs.size + 5 → (∀ c o, s.heap.get? c = some o → h'.get? c = some o) → Q (.ref (s.heap.objs.size + 4)) { s with heap := h' }) →
      (hp5 j k s.heap l1 l2).get? (hp4 j k s.heap l1 l2).objs.size = some { cls := .type "zip", data := .fields #[.none, .bool false, .bool false, .ref (hp2 j k s.heap l1 l2).objs.size, .ref (hp3 j k s.heap l1 l2).objs.size] } ∧ Q (.ref (hp4 j k s.heap l1 l2).objs.size) { s with heap := hp5 j k s.heap l1 l2 } := by
    intro j k hi h
    have z1 : (hp1 j s.heap l1).objs.size = s.heap.objs.size + 1 := Heap.size_push ..
    have z2 : (hp2 j k s.heap l1 l2).objs.size = s.heap.objs.size + 2 := by unfold hp2; rw [Heap.size_push, z1]
    have z3 : (hp3 j k s.heap l1 l2).objs.size = s.heap.objs.size + 3 := by unfold hp3; rw [Heap.size_push, z2]
    have z4 : (hp4 j k s.heap l1 l2).objs.size = s.heap.objs.size + 4 := by unfold hp4; rw [Heap.size_push, z3]
    have z5 : (hp5 j k s.heap l1 l2).objs.size = s.heap.objs.size + 5 := by unfold hp5; rw [Heap.size_push, z4]
    have g5 : (hp5 j k s.heap l1 l2).get? (hp4 j k s.heap l1 l2).objs.size = some _ := Heap.get?_push_size _ rfl
    have g4 : (hp5 j k s.heap l1 l2).get? (hp3 j k s.heap l1 l2).objs.size = some _ := Heap.get?_push_of_some _ (Heap.get?_push_size _ rfl)
    have g3 : (hp5 j k s.heap l1 l2).get? (hp2 j k s.heap l1 l2).objs.size = some _ := Heap.get?_push_of_some _ (Heap.get?_push_of_some _ (Heap.get?_push_size _ rfl))
    refine ⟨g5, ?_⟩
    rw [z2, z3, z4] at g5
    rw [z1, z2] at g3
    rw [z3] at g4
    rw [z4]
    exact h _ g5 g3 g4 hi.1 hi.2 z5 fun c o x => Heap.get?_push_of_some _ (Heap.get?_push_of_some _ (Heap.get?_push_of_some _ (Heap.get?_push_of_some _ (Heap.get?_push_of_some _ x))))
  have i1 : ∀ j k, (hp5 j k s.heap l1 l2).get? s.heap.objs.size = some { cls := .type (kn j), data := .fields #[.ref l1, .int 0 0] } := fun j k => Heap.get?_push_of_some _ (Heap.get?_push_of_some _ (Heap.get?_push_of_some _ (Heap.get?_push_of_some _ (Heap.get?_push_size _ rfl))))
  have i2 : ∀ j k, (hp5 j k s.heap l1 l2).get? (s.heap.objs.size + 1) = some { cls := .type (kn k), data := .fields #[.ref l2, .int 0 0] } := fun j k => by
    have z1 : (hp1 j s.heap l1).objs.size = s.heap.objs.size + 1 := Heap.size_push ..
    rw [← z1]
    exact Heap.get?_push_of_some _ (Heap.get?_push_of_some _ (Heap.get?_push_of_some _ (Heap.get?_push_size _ rfl)))
  have ii : ∀ j k, Ii j (hp5 j k s.heap l1 l2) s.heap.objs.size l1 0 ∧ Ii k (hp5 j k s.heap l1 l2) (s.heap.objs.size + 1) l2 0 := fun j k => by
    cases j <;> cases k <;> exact ⟨⟨_, i1 _ _, rfl, rfl⟩, ⟨_, i2 _ _, rfl, rfl⟩⟩
  cases j <;> cases k
  · exact call_zipT hl1 hl2 h
  · obtain ⟨q1, q2⟩ := key false true (ii false true) h
    exact callType_new F.called_zip (by decide) (F.typeCall_zip_2 _ _) (F.newCall_zip_2 _ _) (fun obj => F.args_object_init_3 obj _ _) F.entry_zip_new (mk_tl l1 l2 xs ys) ⟨hl1, hl2, ⟨⟨_, q1, rfl⟩, q2⟩⟩
  · obtain ⟨q1, q2⟩ := key true false (ii true false) h
    exact callType_new F.called_zip (by decide) (F.typeCall_zip_2 _ _) (F.newCall_zip_2 _ _) (fun obj => F.args_object_init_3 obj _ _) F.entry_zip_new (mk_lt l1 l2 xs ys) ⟨hl1, hl2, ⟨⟨_, q1, rfl⟩, q2⟩⟩
  · exact call_zip_2 hl1 hl2 h
end
/-- both as they stand at each turn, the items in new pairs -/
def Itx (K : PySem.W.Frag) (j k : Bool) (a b : Addr) : It :=
  ⟨fun i H => ∃ (xs ys : List V) (x y : V), Sq K j H a xs ∧ Sq K k H b ys ∧ xs[i]? = some x ∧ ys[i]? = some y,
    fun i H v H' => ∃ T x y, v = .ref T ∧ H T = none ∧ H' = upd H T (.tup [x, y]) ∧ (∀ xs, Sq K j H a xs → xs[i]? = some x) ∧ ∀ ys, Sq K k H b ys → ys[i]? = some y,
    fun i H => ∃ xs ys : List V, Sq K j H a xs ∧ Sq K k H b ys ∧ (xs.length ≤ i ∨ ys.length ≤ i)⟩
theorem mem5 {c a b d e f : Addr} (h : c ∈ [a, b, d, e, f]) : c = a ∨ c = b ∨ c = d ∨ c = e ∨ c = f := by simpa using h
theorem turn_x {P : Program} {w : World} {K : PySem.W.Frag} {elts : List Expr} {kk : Nat} {tpos : Pos} {j k : Bool} {a b z TI TO i1 i2 : Addr} (D : ZipApart z TI TO i1 i2 a b) :
    Turn P w K (.Tuple elts kk tpos) (Itx K j k a b) [z, TI, TO, i1, i2] z (fun i h => IsZip h z TI TO .none ∧ IsPair h TI (.ref i1) (.ref i2) ∧ (∃ x y, IsPair h TO x y) ∧ Ii j h i1 a i ∧ Ii k h i2 b i) where
  mem := by simp
  obj := fun i h st c hc => by
    obtain ⟨hz, hTI, ⟨x, y, hTO⟩, h1, h2⟩ := st
    rcases mem5 hc with q | q | q | q | q <;> rw [q]
    · exact ⟨_, hz, fun v q => nomatch q⟩
    · exact ⟨_, hTI, fun v q => nomatch q⟩
    · exact ⟨_, hTO, fun v q => nomatch q⟩
    · exact h1.ob
    · exact h2.ob
  keep := fun i h h' st k => by
    obtain ⟨hz, hTI, ⟨x, y, hTO⟩, h1, h2⟩ := st
    exact ⟨k z (by simp) _ hz, k TI (by simp) _ hTI, ⟨x, y, k TO (by simp) _ hTO⟩, h1.at_ fun o q => k i1 (by simp) o q, h2.at_ fun o q => k i2 (by simp) o q⟩
  item := by
    intro X hP hw hK hc i pins s σ H E I hf st hg
    subst hP hw hK
    obtain ⟨hz, hTI, ⟨x0, y0, hTO⟩, h1, h2⟩ := st; obtain ⟨xs, ys, x, y, hqx, hqy, hx, hy⟩ := hg
    obtain ⟨its, rv, p⟩ := Sq.is I hqx; obtain ⟨its2, rv2, p2⟩ := Sq.is I hqy
    obtain ⟨u, hu, ru⟩ := rv.get hx; obtain ⟨u2, hu2, ru2⟩ := rv2.get hy
    have ltz : z < s.heap.objs.size := Heap.lt_size hz
    refine py_item D hz hTI hTO h1 h2 p p2 (x := u) (y := u2) (by simpa using hu) (by simpa using hu2) fun g z' t' a' b' hT hsz hk => ⟨_, rfl, wpAny_letOwnedTupleGo_zip (s := { s with heap := g }) z' fun g2 z2 sb => ?_⟩
    have hT2 : g2.get? s.heap.objs.size = some { cls := .type "tuple", data := .seq #[u, u2] } := (sb.2 _ (Nat.ne_of_gt ltz)).trans hT
    have new : ObjOk X.prog X.w (upd H s.heap.objs.size (.tup [x, y])) g2 s.heap.objs.size (.tup [x, y]) := ⟨by show 2 ≤ sizeLine; decide, [u, u2], .cons ru (.cons ru2 .nil), ⟨_, hT2, rfl, _, rfl⟩⟩
    have nin : ∀ {c : Addr}, c ∉ [z, TI, TO, i1, i2] → c ≠ z ∧ c ≠ TO ∧ c ≠ i1 ∧ c ≠ i2 := fun {c} h => ⟨fun q => h (by simp [q]), fun q => h (by simp [q]), fun q => h (by simp [q]), fun q => h (by simp [q])⟩
    have J : Inv X pins σ (upd H s.heap.objs.size (.tup [x, y])) { s with heap := g2 } := I.turnedNew (t' := s.toks) (ch := [z, TI, TO, i1, i2]) (fun c o hb q => let ⟨n1, n2, n3, n4⟩ := nin hb; (sb.2 c n1).trans (hk c o n1 n2 n3 n4 q)) hf (Nat.le_refl _) new
    refine ⟨.ref s.heap.objs.size, _, J, rfl, ⟨_, x, y, rfl, I.hok.fresh (Nat.le_refl _), rfl, fun l hl => by rw [Sq.inj I hl hqx]; exact hx, fun l hl => by rw [Sq.inj I hl hqy]; exact hy⟩,
      ⟨z2, (sb.2 _ D.TIz).trans (hk _ _ D.TIz D.TITO D.TIi1 D.TIi2 hTI), ⟨u, u2, (sb.2 _ D.TOz).trans t'⟩, a'.at_ fun o q => (sb.2 _ D.i1z).trans q, b'.at_ fun o q => (sb.2 _ D.i2z).trans q⟩, fun c hcm => ?_⟩
    have hlt : c < s.heap.objs.size := by
      rcases mem5 hcm with q | q | q | q | q <;> rw [q]
      · exact ltz
      · exact Heap.lt_size hTI
      · exact Heap.lt_size hTO
      · exact h1.lt
      · exact h2.lt
    rw [upd_ne (Nat.ne_of_lt hlt)]
    exact (hf c hcm).1
  done := by
    intro X hP hw hK hc i pins s σ H E I hf st hg
    subst hP hw hK
    obtain ⟨hz, hTI, ⟨x0, y0, hTO⟩, h1, h2⟩ := st; obtain ⟨xs, ys, hqx, hqy, hend⟩ := hg
    obtain ⟨its, rv, p⟩ := Sq.is I hqx; obtain ⟨its2, rv2, p2⟩ := Sq.is I hqy
    have l1 := rv.length; have l2 := rv2.length
    have he : its.toArray[i]? = none ∨ its2.toArray[i]? = none := by
      rcases hend with q | q
      · left; simp; omega
      · right; simp; omega
    have nin : ∀ {c : Addr}, c ∉ [z, TI, TO, i1, i2] → c ≠ z ∧ c ≠ TO ∧ c ≠ i1 ∧ c ≠ i2 := fun {c} h => ⟨fun q => h (by simp [q]), fun q => h (by simp [q]), fun q => h (by simp [q]), fun q => h (by simp [q])⟩
    exact py_end (I.ok.hd hc) D hz hTI hTO h1 h2 p p2 he fun h' hk => ⟨rfl, I.turnedL (t' := s.toks) (ch := [z, TI, TO, i1, i2]) (fun c o hb q => let ⟨n1, n2, n3, n4⟩ := nin hb; hk c o n1 n2 n3 n4 q) hf⟩
  self := fun A i s Q E st h => wpAny_pyIter_zip st.1 h
def iZx (K : PySem.W.Frag) (ta : TA) : TI := fun σ H R => ta σ H fun vs H1 => ∃ a b j k xs ys, vs = [.ref a, .ref b] ∧ Sq K j H1 a xs ∧ Sq K k H1 b ys ∧ R (Itx K j k a b) H1
theorem pi_zx {X : Cx} {e e2 : Expr} {ta : TA} {p pos tpos : Pos} {elts : List Expr} {kk : Nat} (hg : Gl X "zip") (hm : X.mg "zip" = none) (ha : PA X [e, e2] ta) (hs : starEach [e, e2] X.env = (false, eval e X.env) :: starEach [e2] X.env := by rfl) (hpl : (backTo pos (starEach [e2] X.env)).any (·.1) = false := by rfl) :
    PI X (.Tuple elts kk tpos) (.Call (.Name "zip" p) [e, e2] [] pos) (iZx X.K ta) := by
  refine ⟨fun pins s σ H R I h => Call_ (ld_blt I hg hm PyProof.Rows.boot_zip (PyProof.Rows.callWith_type1 (thn (ha.run pos pins s σ H _ I h) fun us s1 ⟨vs, H1, I1, r1, q1⟩ => ?_) hs hpl))⟩
  obtain ⟨a, b, j, k, xs, ys, rfl, hqx, hqy, q⟩ := q1
  obtain ⟨u1, u2, rfl, r1, r2⟩ := vals2 r1
  cases (show u1 = Value.ref a from r1); cases (show u2 = Value.ref b from r2)
  obtain ⟨its, rv, p1⟩ := Sq.is I1 hqx; obtain ⟨its2, rv2, p2⟩ := Sq.is I1 hqy
  refine call_z p1 p2 fun h' hz hTI hTO h1 h2 hsz hk => wpAny_pyIter_zip hz ?_
  have I2 : Inv X pins σ H1 { s1 with heap := h' } := I1.kept (t' := s1.toks) hk
  refine ⟨_, _, _, _, H1, rfl, I2, turn_x (PySem.W.ktu_apart s1.heap.objs.size a b p1.lt p2.lt), ⟨hz, hTI, ⟨_, _, hTO⟩, h1, h2⟩, fun c hcm => ?_, q⟩
  have hle : s1.heap.objs.size ≤ c := by rcases mem5 hcm with z | z | z | z | z <;> rw [z] <;> omega
  exact I1.fpOk hle (I1.hok.fresh hle)
/-! a list or a tuple walked -/
def iLT (K : PySem.W.Frag) (te : TE) : TI := fun σ H R => te σ H fun x H1 => ∃ a, x = .ref a ∧ ((∃ xs, SqL K H1 a xs) ∧ R (Itl K a) H1 ∨ (∃ xs, SqT K H1 a xs) ∧ R (Itt K a) H1)
theorem pi_lt {X : Cx} {tg l : Expr} {tl : TE} (hl : PE X l tl) : PI X tg l (iLT X.K tl) := by
  refine ⟨fun pins s σ H R I h => ?_⟩
  refine thn (hl.run pins s σ H _ I h) fun v s1 ⟨x, H1, I1, r1, a, e, q⟩ => ?_
  subst e
  cases (show v = Value.ref a from r1)
  rcases q with ⟨⟨xs, hq⟩, q⟩ | ⟨⟨xs, hq⟩, q⟩
  · obtain ⟨its, rv, p, hz⟩ := I1.list hq
    refine wpAny_pyIter_list p.isList ⟨s1.heap.objs.size, [s1.heap.objs.size], _, _, H1, rfl, I1.kept (t' := s1.toks) fun b o e => Heap.get?_push_of_some _ e, turn_list a _, ⟨_, Heap.get?_push_size _ rfl, rfl, rfl⟩, fun b hb => ?_, q⟩
    rw [List.mem_singleton.mp hb]
    exact I1.fpOk (Nat.le_refl _) (I1.hok.fresh (Nat.le_refl _))
  · obtain ⟨its, rv, p, hz⟩ := I1.tuple hq
    refine wpAny_pyIter_tuple p ⟨s1.heap.objs.size, [s1.heap.objs.size], _, _, H1, rfl, I1.kept (t' := s1.toks) fun b o e => Heap.get?_push_of_some _ e, turn_tuple a _, ⟨_, Heap.get?_push_size _ rfl, rfl, rfl⟩, fun b hb => ?_, q⟩
    rw [List.mem_singleton.mp hb]
    exact I1.fpOk (Nat.le_refl _) (I1.hok.fresh (Nat.le_refl _))
end Zx

set_option Elab.async false
set_option linter.all false
set_option maxRecDepth 100000
set_option maxHeartbeats 4000000
namespace Uv
open PySem PySem.Spec L2 Zx
open PyProof.Rows hiding St
/-! ### walks over a list or a tuple, over zips, over enumerate -/
/-- what is read as a list or as a tuple stays so -/
def Kx (K : PySem.W.Frag) (H H' : Hp) : Prop := ∀ (p : Addr) (xs : List V), (SqL K H p xs → SqL K H' p xs) ∧ (SqT K H p xs → SqT K H' p xs)
theorem Ex.kx {K : PySem.W.Frag} {H H' : Hp} (e : Ex H H') : Kx K H H' := fun p xs => ⟨fun h => Ex.sl h e, fun h => Ex.st h e⟩
theorem Kb.kx {K : PySem.W.Frag} {b : Addr} {H H' : Hp} (e : Kb b H H') : Kx K H H' := fun p xs => ⟨fun h => e.l h, fun h => e.t h⟩
theorem Kx.sq {K : PySem.W.Frag} {H H' : Hp} {k : Bool} {a : Addr} {xs : List V} (e : Kx K H H') (h : Sq K k H a xs) : Sq K k H' a xs := by
  cases k
  · exact (e a xs).2 h
  · exact (e a xs).1 h
def SqA (K : PySem.W.Frag) (H : Hp) (p : Addr) (xs : List V) : Prop := SqL K H p xs ∨ SqT K H p xs
theorem SqA.kx {K : PySem.W.Frag} {H H' : Hp} {p : Addr} {xs : List V} (h : SqA K H p xs) (e : Kx K H H') : SqA K H' p xs := h.imp (e p xs).1 (e p xs).2
theorem SqA.sq {K : PySem.W.Frag} {H : Hp} {p : Addr} {xs : List V} (h : SqA K H p xs) : ∃ k, Sq K k H p xs := by
  rcases h with h | h
  · exact ⟨true, h⟩
  · exact ⟨false, h⟩
section
variable {D : Ends} {σ : L2.St} {H : Hp} {K : PySem.W.Frag}
theorem s_ilt {R : It → Hp → Prop} {te : TE} (h : te σ H fun x H1 => ∃ a, x = .ref a ∧ ((∃ xs, SqL K H1 a xs) ∧ R (Itl K a) H1 ∨ (∃ xs, SqT K H1 a xs) ∧ R (Itt K a) H1)) : iLT K te σ H R := h
theorem s_izx {R : It → Hp → Prop} {ta : TA} (h : ta σ H fun vs H1 => ∃ a b j k xs ys, vs = [.ref a, .ref b] ∧ Sq K j H1 a xs ∧ Sq K k H1 b ys ∧ R (Itx K j k a b) H1) : iZx K ta σ H R := h
theorem s_ienum {R : It → Hp → Prop} {ta : TA} (h : ta σ H fun vs H1 => ∃ a xs, vs = [.ref a] ∧ SqL K H1 a xs ∧ R (Ite K a) H1) : iEnum K ta σ H R := h
theorem loopA {p : Addr} {xs : List V} {g : TG} {tb : TS} (hp : SqA K H p xs) (I : Nat → L2.St → Hp → Prop) (h0 : I 0 σ H) (keep : ∀ i σ H', I i σ H' → (SqL K H p xs → SqL K H' p xs) ∧ (SqT K H p xs → SqT K H' p xs)) (hx : ∀ σ H, I xs.length σ H → D.nx σ H)
    (hb : ∀ i x σ H, xs[i]? = some x → I i σ H → g x σ H fun σ2 H2 => tb { D with nx := I (i + 1), ct := I (i + 1), bk := D.nx } σ2 H2) :
    ∃ a, V.ref p = V.ref a ∧ ((∃ xs, SqL K H a xs) ∧ LoopR (Itl K a) g tb D σ H ∨ (∃ xs, SqT K H a xs) ∧ LoopR (Itt K a) g tb D σ H) := by
  rcases hp with hp | hp
  · obtain ⟨a, e, _, l⟩ := loopL (D := D) (g := g) (tb := tb) (σ := σ) (H := H) (xs := xs) (p := p) I h0 (fun i σ H' h => (keep i σ H' h).1 hp) hx hb
    cases e
    exact ⟨p, rfl, .inl ⟨⟨xs, hp⟩, l⟩⟩
  · obtain ⟨a, e, _, l⟩ := loopT (D := D) (g := g) (tb := tb) (σ := σ) (H := H) (xs := xs) (p := p) I h0 (fun i σ H' h => (keep i σ H' h).2 hp) hx hb
    cases e
    exact ⟨p, rfl, .inr ⟨⟨xs, hp⟩, l⟩⟩
/-- a loop over a zip; n: the shorter length -/
theorem loopZ {j k : Bool} {a b : Addr} {xs ys : List V} {g : TG} {tb : TS} (n : Nat) (hn : n = min xs.length ys.length) (I : Nat → L2.St → Hp → Prop) (h0 : I 0 σ H) (ha : ∀ i σ H', I i σ H' → Sq K j H' a xs) (hb : ∀ i σ H', I i σ H' → Sq K k H' b ys) (hx : ∀ σ H, I n σ H → D.nx σ H)
    (hs : ∀ i x y T σ H, xs[i]? = some x → ys[i]? = some y → I i σ H → H T = none → g (.ref T) σ (upd H T (.tup [x, y])) fun σ2 H2 => tb { D with nx := I (i + 1), ct := I (i + 1), bk := D.nx } σ2 H2) :
    ∃ a' b' j k xs ys, [V.ref a, V.ref b] = [V.ref a', V.ref b'] ∧ Sq K j H a' xs ∧ Sq K k H b' ys ∧ LoopR (Itx K j k a' b') g tb D σ H := by
  refine ⟨a, b, j, k, xs, ys, rfl, ha _ _ _ h0, hb _ _ _ h0, loop_n n I h0 (fun σ H' h => ⟨xs, ys, ha _ _ _ h, hb _ _ _ h, by omega⟩) (fun i σ H' h z => ⟨xs, ys, xs[i]'(by omega), ys[i]'(by omega), ha _ _ _ h, hb _ _ _ h, List.getElem?_eq_getElem _, List.getElem?_eq_getElem _⟩) hx fun i v σ H2 H' z h y => ?_⟩
  obtain ⟨T, x, y', rfl, hT, rfl, f1, f2⟩ := y
  exact hs i x y' T σ H2 (f1 xs (ha _ _ _ h)) (f2 ys (hb _ _ _ h)) h hT
theorem loopE {a : Addr} {xs : List V} {g : TG} {tb : TS} (I : Nat → L2.St → Hp → Prop) (h0 : I 0 σ H) (ha : ∀ i σ H', I i σ H' → SqL K H' a xs) (hx : ∀ σ H, I xs.length σ H → D.nx σ H)
    (hs : ∀ i x T σ H, xs[i]? = some x → I i σ H → H T = none → g (.ref T) σ (upd H T (.tup [.int (i : Nat), x])) fun σ2 H2 => tb { D with nx := I (i + 1), ct := I (i + 1), bk := D.nx } σ2 H2) :
    ∃ a' xs, [V.ref a] = [V.ref a'] ∧ SqL K H a' xs ∧ LoopR (Ite K a') g tb D σ H := by
  refine ⟨a, xs, rfl, ha _ _ _ h0, loop_n xs.length I h0 (fun σ H' h => ⟨xs, ha _ _ _ h, Nat.le_refl _⟩) (fun i σ H' h z => ⟨xs, xs[i], ha _ _ _ h, List.getElem?_eq_getElem z⟩) hx fun i v σ H2 H' z h y => ?_⟩
  obtain ⟨T, x, rfl, hT, rfl, f1⟩ := y
  exact hs i x T σ H2 (f1 xs (ha _ _ _ h)) h hT
/-! comprehensions -/
abbrev LcB (σ : L2.St) (H : Hp) (g : TG) (tt : TT) (te : TE) (vs : List Nat) (I : Addr → Nat → List V → Hp → Prop) (D : Addr) (i : Nat) (x : V) (H' : Hp) : Prop :=
  g x (wipe σ vs) H' fun σ2 H3 => wipe σ2 vs = wipe σ vs ∧ tt σ2 H3 fun b H4 => if b = true then te σ2 H4 fun y H5 => ∃ acc, H5 D = some (.lst acc) ∧ acc.length < sizeLine ∧ ∃ acc', I D (i + 1) acc' (upd H5 D (.lst (acc ++ [y]))) else ∃ acc, I D (i + 1) acc H4
theorem lc_d {J : It} {g : TG} {tt : TT} {te : TE} {vs : List Nat} {Q : VK} (n : Nat) (I : Addr → Nat → List V → Hp → Prop) (h0 : ∀ D, H D = none → I D 0 [] (upd H D (.lst [])))
    (hs : ∀ D acc H', H D = none → I D n acc H' → J.stop n H') (hg : ∀ D i acc H', H D = none → I D i acc H' → i < n → J.go i H') (hx : ∀ D acc H', H D = none → I D n acc H' → Q (.ref D) H')
    (hb : ∀ D i x acc H2 H', H D = none → i < n → I D i acc H2 → J.yld i H2 x H' → LcB σ H g tt te vs I D i x H') : LcR J g tt te vs Q σ H := by
  intro D hD
  refine ⟨fun i m H => i + m = n ∧ ∃ acc, I D i acc H, ⟨n, by omega, [], h0 D hD⟩, fun i m H' ⟨e, acc, h⟩ => ?_⟩
  by_cases z : i < n
  · exact .inr ⟨hg D i acc H' hD h z, fun H' => ∃ acc, I D (i + 1) acc H', fun H2 h' => ⟨m - 1, by omega, by omega, h'⟩, fun x H2 y => hb D i x acc H' H2 hD z h y⟩
  · have : i = n := by omega
    subst this
    exact .inl ⟨hs D acc H' hD h, hx D acc H' hD h⟩
theorem lcA {p : Addr} {xs : List V} {g : TG} {tt : TT} {te : TE} {vs : List Nat} {Q : VK} (hp : SqA K H p xs) (I : Addr → Nat → List V → Hp → Prop) (h0 : ∀ D, H D = none → I D 0 [] (upd H D (.lst [])))
    (he : ∀ D i acc H', H D = none → I D i acc H' → Kx K H H') (hx : ∀ D acc H', H D = none → I D xs.length acc H' → Q (.ref D) H')
    (hb : ∀ D i x acc H', H D = none → xs[i]? = some x → I D i acc H' → LcB σ H g tt te vs I D i x H') :
    ∃ a, V.ref p = V.ref a ∧ ((∃ xs, SqL K H a xs) ∧ LcR (Itl K a) g tt te vs Q σ H ∨ (∃ xs, SqT K H a xs) ∧ LcR (Itt K a) g tt te vs Q σ H) := by
  rcases hp with hp | hp
  · refine ⟨p, rfl, .inl ⟨⟨xs, hp⟩, lc_d xs.length I h0 (fun D acc H' n h => ⟨xs, (he _ _ _ _ n h p xs).1 hp, Nat.le_refl _⟩) (fun D i acc H' n h z => ⟨xs, _, (he _ _ _ _ n h p xs).1 hp, List.getElem?_eq_getElem z⟩) hx fun D i x acc H2 H' n z h y => ?_⟩⟩
    obtain ⟨rfl, y⟩ := y
    exact hb D i x acc _ n (y xs ((he _ _ _ _ n h p xs).1 hp)) h
  · refine ⟨p, rfl, .inr ⟨⟨xs, hp⟩, lc_d xs.length I h0 (fun D acc H' n h => ⟨xs, (he _ _ _ _ n h p xs).2 hp, Nat.le_refl _⟩) (fun D i acc H' n h z => ⟨xs, _, (he _ _ _ _ n h p xs).2 hp, List.getElem?_eq_getElem z⟩) hx fun D i x acc H2 H' n z h y => ?_⟩⟩
    obtain ⟨rfl, y⟩ := y
    exact hb D i x acc _ n (y xs ((he _ _ _ _ n h p xs).2 hp)) h
theorem lcZ {j k : Bool} {a b : Addr} {xs ys : List V} {g : TG} {tt : TT} {te : TE} {vs : List Nat} {Q : VK} (n : Nat) (hn : n = min xs.length ys.length) (ha : Sq K j H a xs) (hb : Sq K k H b ys) (I : Addr → Nat → List V → Hp → Prop) (h0 : ∀ D, H D = none → I D 0 [] (upd H D (.lst [])))
    (he : ∀ D i acc H', H D = none → I D i acc H' → Kx K H H') (hx : ∀ D acc H', H D = none → I D n acc H' → Q (.ref D) H')
    (hs : ∀ D i x y T acc H', H D = none → xs[i]? = some x → ys[i]? = some y → I D i acc H' → H' T = none → LcB σ H g tt te vs I D i (.ref T) (upd H' T (.tup [x, y]))) :
    ∃ a' b' j k xs ys, [V.ref a, V.ref b] = [V.ref a', V.ref b'] ∧ Sq K j H a' xs ∧ Sq K k H b' ys ∧ LcR (Itx K j k a' b') g tt te vs Q σ H := by
  refine ⟨a, b, j, k, xs, ys, rfl, ha, hb, lc_d n I h0 (fun D acc H' nD h => ⟨xs, ys, (he _ _ _ _ nD h).sq ha, (he _ _ _ _ nD h).sq hb, by omega⟩) (fun D i acc H' nD h z => ⟨xs, ys, xs[i]'(by omega), ys[i]'(by omega), (he _ _ _ _ nD h).sq ha, (he _ _ _ _ nD h).sq hb, List.getElem?_eq_getElem _, List.getElem?_eq_getElem _⟩) hx fun D i v acc H2 H' nD z h y => ?_⟩
  obtain ⟨T, x, y', rfl, hT, rfl, f1, f2⟩ := y
  exact hs D i x y' T acc H2 nD (f1 xs ((he _ _ _ _ nD h).sq ha)) (f2 ys ((he _ _ _ _ nD h).sq hb)) h hT
end
/-! ### a method of a built-in type, append -/
section
variable {σ : L2.St} {H : Hp} {Q : VK} {K : PySem.W.Frag}
theorem s_bm {T : String} {r : V → List V → Hp → VK → Prop} {to : TE} {t : TA} (h : to σ H fun x H1 => tyV K T x H1 ∧ t σ H1 fun xs H2 => r x xs H2 Q) : tBM K T r to t σ H Q := h
theorem s_tyL {p : Addr} {xs : List V} {P : Prop} (h : SqL K H p xs) (q : P) : tyV K "list" (.ref p) H ∧ P := ⟨Or.inl ⟨rfl, xs, h⟩, q⟩
theorem s_app {l : Addr} {xs : List V} {y : V} (h : H l = some (.lst xs)) (z : xs.length < sizeLine) (q : Q .non (upd H l (.lst (xs ++ [y])))) : rAppend (.ref l) [y] H Q := ⟨l, xs, y, rfl, rfl, h, z, q⟩
end
/-! ### in a dict -/
section
variable {X : Cx} {σ : L2.St} {H : Hp} {Q : VK} {td ty : TE}
theorem s_din (h : ty σ H fun y H1 => td σ H1 fun x H2 => ∃ a o, x = .ref a ∧ DGet H2 a y o ∧ Q (.bl o.isSome) H2) : tDIn ty td σ H Q := h
theorem s_dnotin (h : ty σ H fun y H1 => td σ H1 fun x H2 => ∃ a o, x = .ref a ∧ DGet H2 a y o ∧ Q (.bl (!o.isSome)) H2) : tDNotIn ty td σ H Q := h
end
/-! ### x in text, str(a list or tuple) -/
def rInTx (neg : Bool) : R2 := fun x y H Q => match x, y with
  | .str a, .str b => Q (.bl (neg.xor (!(Builtin.Str.occurrences b a 0 b.length 1).isEmpty))) H
  | _, _ => False
theorem op_inTx {X : Cx} : OpR X (compareOp .In) (rInTx false) := by
  intro pins s σ H x y u v Q I rx ry h
  cases x with
  | str a =>
    cases y with
    | str b => exact op_in_str pins s σ H _ _ _ _ Q I rx ry ⟨a, b, rfl, rfl, by simpa [rInTx] using h⟩
    | _ => exact h.elim
  | _ => exact h.elim
theorem op_notInTx {X : Cx} : OpR X (compareOp .NotIn) (rInTx true) := by
  intro pins s σ H x y u v Q I rx ry h
  cases x with
  | str a =>
    cases y with
    | str b => exact op_notIn_str pins s σ H _ _ _ _ Q I rx ry ⟨a, b, rfl, rfl, by simpa [rInTx] using h⟩
    | _ => exact h.elim
  | _ => exact h.elim
/-- str of plain data: numbers, texts, lists and tuples -/
def uStrD (K : PySem.W.Frag) : List V → Hp → VK → Prop := fun xs H Q => match xs with
  | [.int i] => i.natAbs.log2 < 1920 ∧ Q (.str (toString i)) H
  | [.str a] => Q (.str a) H
  | [.ref a] => ∃ d, Dp K H (.ref a) d ∧ d.showable = true ∧ d.hasDict = false ∧ d.depth ≤ 60 ∧ d.shown.length ≤ sizeLine ∧ Q (.str d.shown) H
  | _ => False
theorem call_uStrD {X : Cx} {k : Nat} (hr : Rm k X.A) : CallR X (.type "str") (uStrD X.K) := by
  intro pins s σ H xs us Q I r h
  match xs, h with
  | [.int i], h => exact call_str_int pins s σ H _ us Q I r ⟨i, rfl, h.1, h.2⟩
  | [.str a], h => exact SkE.call_str_str pins s σ H _ us Q I r ⟨a, rfl, h⟩
  | [.ref a], ⟨d, hd, hs, hn, hdp, hl, q⟩ =>
    obtain ⟨u, rfl, rv⟩ := vals1 r
    cases (show u = Value.ref a from rv)
    obtain ⟨as, rd⟩ := Dp.reads I d _ _ hd rv
    have hu := hr.r.un
    exact str_of_reads rd hs (fun z => by rw [hn] at z; cases z) hr.g (by omega) (fun _ _ z => z) (fun h' t tk k => ⟨.str d.shown, H, I.kept (t' := tk) k, ⟨_, rfl⟩, q⟩) hl
/-! ### tuple(..) -/
def uTup (K : PySem.W.Frag) : List V → Hp → VK → Prop := fun xs H Q => match xs with
  | [.ref p] => ∃ ys, (SqL K H p ys ∧ ∀ l, H l = none → Q (.ref l) (upd H l (.tup ys))) ∨ (SqT K H p ys ∧ Q (.ref p) H)
  | _ => False
theorem call_uTup {X : Cx} : CallR X (.type "tuple") (uTup X.K) := by
  intro pins s σ H xs us Q I r h
  match xs, h with
  | [.ref p], ⟨ys, h⟩ => exact call_tuple_of pins s σ H _ us Q I r ⟨p, ys, rfl, h⟩
theorem call_uTupK {X : Cx} {K : PySem.W.Frag} (e : X.K = K) : CallR X (.type "tuple") (uTup K) := by subst e; exact call_uTup
/-! ### tuples joined, cut, repeated: what they are, wherever they stand -/
section
variable {K : PySem.W.Frag} {H : Hp} {Q : VK} {a b : Addr} {xs ys : List V}
theorem s_catT (ha : SqT K H a xs) (hb : SqT K H b ys) (c : xs.length + ys.length ≤ sizeLine) (h : ∀ q H', Ex H H' → SqT K H' q (xs ++ ys) → Q (.ref q) H') : uAdd K (.ref a) (.ref b) H Q :=
  .inr ⟨a, b, xs, ys, rfl, rfl, ha, hb, c, fun e => h b H (exR H) (by rw [e]; exact hb), fun _ e => h a H (exR H) (by rw [e, List.append_nil]; exact ha), fun _ _ p n => h p _ (exN n) (.of upd_same)⟩
theorem cut_all (lo hi : Option Int) (h : HT.sIx xs.length 0 lo = 0 ∧ HT.sIx xs.length xs.length hi = xs.length) : cutV xs lo hi = xs := by
  unfold cutV
  rw [h.1, h.2, List.drop_zero, Nat.sub_zero, List.take_length]
theorem s_slT {lo hi : Option Int} (ha : SqT K H a xs) (h : ∀ q H', Ex H H' → SqT K H' q (cutV xs lo hi) → Q (.ref q) H') : uSl K (.ref a) lo hi H Q :=
  .inr ⟨a, xs, rfl, ha, fun e => h a H (exR H) (by rw [cut_all lo hi e]; exact ha), fun _ p n => h p _ (exN n) (.of upd_same)⟩
theorem s_slL {lo hi : Option Int} (ha : SqL K H a xs) (h : ∀ q H', Ex H H' → H' q = some (.lst (cutV xs lo hi)) → Q (.ref q) H') : uSl K (.ref a) lo hi H Q :=
  .inl ⟨a, xs, rfl, ha, fun p n => h p _ (exN n) upd_same⟩
theorem s_repT {k : Int} (ha : SqT K H a xs) (ne : xs ≠ []) (k1 : 1 ≤ k) (k2 : k ≤ 1000) (l : xs.length ≤ 1000) (h : ∀ q H', Ex H H' → SqT K H' q (List.replicate k.toNat xs).flatten → Q (.ref q) H') : uMul K (.ref a) (.int k) H Q := by
  by_cases e : k = 1
  · subst e
    exact .inr (.inr ⟨a, xs, rfl, rfl, ha, h a H (exR H) (by simpa using ha)⟩)
  · exact .inr (.inl ⟨a, k, xs, rfl, rfl, ha, ne, by omega, k2, l, fun p n => h p _ (exN n) (.of upd_same)⟩)
theorem rep1 (k : Nat) (x : V) : (List.replicate k [x]).flatten = List.replicate k x := by
  induction k with
  | zero => rfl
  | succ n ih => rw [List.replicate_succ, List.flatten_cons, ih]; rfl
theorem s_tupOfL {p : Addr} (hp : SqL K H p xs) (h : ∀ q H', Ex H H' → SqT K H' q xs → Q (.ref q) H') : uTup K [.ref p] H Q := ⟨xs, .inl ⟨hp, fun l n => h l _ (exN n) (.of upd_same)⟩⟩
theorem s_tupOfT {p : Addr} (hp : SqT K H p xs) (h : Q (.ref p) H) : uTup K [.ref p] H Q := ⟨xs, .inr ⟨hp, h⟩⟩
end
/-! ### a token is out -/
structure PTT (X : Cx) (e : Expr) (t : TT) : Prop where
  run : ∀ (pins : List (Addr × Obj)) (s : Shared) (σ : L2.St) (H : Hp) (Q : Bool → Hp → Prop), L2.Inv X pins σ H s → t σ H Q → wpAny (model X.prog X.w) X.A (isTrue e X.env (eval e X.env)) (fun c s1 => (c = false → 1 ≤ s1.toks) ∧ TP X pins σ Q c s1) X.xe s
section
variable {X : Cx} {a b c e : Expr} {ta tb te : TE} {tA tB' : TT} {rest : List Stmt} {t u : TS} {pos p1 p2 p3 : Pos}
/-- 'c' in b -/
theorem ptt_in {op : CmpOp} {r : R2} {x : Str} {j : Nat} (ho : OpR X (compareOp op) r) (hb : PE X b tb) (hm : behindInMarks op b = false) : PTT X (.Compare (.Constant (.str x) j p1) [op] [b] pos) (tTest (tOp r (tC (.str x)) tb)) := by
  refine ⟨fun pins s σ H Q I h => ?_⟩
  refine wpAny_isTrue_Compare1 (Calls.Constant_str ?_) hm
  have n1 : 1 ≤ ({ s with toks := s.toks + 1 } : Shared).toks := Nat.le_add_left _ _
  refine wpAny_mono (wpAny_toks_of n1 (hb.run pins _ σ H _ (I.tok (s.toks + 1)) h)) (fun v s2 ⟨n2, y, H2, I2, r2, q2⟩ => ?_) fun _ _ z => z.2
  refine wpAny_mono (wpAny_toks_of n2 (ho pins s2 σ H2 (.str x) y _ v _ I2 ⟨s.toks, rfl⟩ r2 q2)) (fun w' s3 ⟨n3, z, H3, I3, r3, k, e, q3⟩ => ?_) fun _ _ z => z.2
  subst e
  cases r3
  exact wpAny_truthy_bool ⟨fun _ => n3, H3, I3, q3⟩
theorem ptt_or (ha : PT X a tA) (hb : PTT X b tB') : PTT X (.BoolOp .Or [a, b] pos) (tOr tA tB') := by
  refine ⟨fun pins s σ H Q I h => ?_⟩
  refine isTrue_or (thn (ha.run pins s σ H _ I h) fun c s1 ⟨H1, I1, q1⟩ => ?_)
  cases c with
  | true => exact ⟨(fun z => by cases z), H1, I1, q1⟩
  | false =>
    refine isTrue_or (thn (hb.run pins s1 σ H1 Q I1 q1) fun d s2 e => ?_)
    cases d with
    | false => exact isTrue_or_nil e
    | true => exact e
theorem pss_ifRet (hc : PTT X c tA) (he : PE X e te) (h2 : PSsT X rest u) : PSs X (.If c [.Return (some e) p1] [] pos :: rest) (tSeq (tIfS tA (tRet te) tNext) u) := by
  refine ⟨fun pins s σ H D I h => ?_⟩
  have h3 : tA σ H fun d H1 => if d = true then tRet te { D with nx := u D } σ H1 else u D σ H1 := h
  refine wpAny_execs_cons (wpAny_If (thn (hc.run pins s σ H _ I h3) fun d s1 ⟨n, H1, I1, q1⟩ => ?_))
  cases d with
  | true => exact wpAny_execs_cons (wpAny_Return_some (thn (he.run pins s1 σ H1 _ I1 q1) fun v s2 ⟨x, H2, I2, r2, q2⟩ => ⟨x, σ, H2, I2, r2, q2⟩))
  | false => exact wpAny_execs_nil (h2 pins s1 σ H1 D (n rfl) I1 q1)
theorem pet_m1 {id : String} {name : Str} {apos : Pos} {r : V → List V → Hp → VK → Prop} (slot : Slot "str" name id) (ty : typeOf (.builtin id) = pure (.type "method_descriptor")) (rule : MtR X id r) (ho : PET X a ta) (he : PE X e te)
    (hs : starEach [e] X.env = [(false, eval e X.env)] := by rfl) (hbase : attributeBase a name X.env (eval a X.env) = eval a X.env := by rfl) (hline : (apos.endLine == pos.line) = true := by rfl) : PET X (.Call (.Attribute a name apos) [e] [] pos) (tM1 r ta te) := by
  intro pins s σ H Q h0 I h
  refine PySem.Call_method1 hbase hs hline (thn (ho pins s σ H _ h0 I h) fun v s1 ⟨x, H1, I1, r1, q1⟩ => ?_)
  obtain ⟨⟨z, rfl⟩, q1⟩ := q1
  obtain ⟨t, rfl⟩ := _root_.id r1
  exact ⟨"str", _, F.plainAttrs_str, slot, ty, typeIs_str _ _ _, (fun _ e => nomatch e), Calls.callWith_builtin rfl (Calls.evalArgs_plain (Calls.spliced_cons (thn (he.run pins s1 σ H1 _ I1 q1) fun u s2 ⟨y, H2, I2, r2, q2⟩ => Calls.spliced_nil (rule pins s2 σ H2 _ [y] _ [u] Q I2 r1 (.cons r2 .nil) q2))))⟩
theorem pst_set {i : Nat} {x : Str} {pos' : Pos} (hN : X.N.Nodup) (hi : X.N[i]? = some x) (hx : Loc X.env.scope x) (he : PET X e te) (hs : swapsWith e (some (.Name x pos')) pos.line X.env = pure false := by rfl) (hf : X.fn x = true ∨ X.env.scope.names.lookup x = some .local := by first | exact .inl rfl | exact .inr rfl | assumption) :
    PST X (.Assign [.Name x pos'] e pos) (tAsg te (gName i)) := by
  intro pins s σ H D h0 I h
  exact wpAny_Assign_Name (thn (he pins s σ H _ h0 I h) fun v s1 ⟨y, H1, I1, r1, q1⟩ => store_ok I1 hN hi hx r1 (fun s2 I2 => ⟨_, H1, I2, q1⟩) hf) hs
theorem psst_of (h : PS X (.Pass pos) t) : True := trivial
end
end Uv

set_option Elab.async false
set_option linter.all false
set_option maxRecDepth 100000
set_option maxHeartbeats 4000000
namespace Uv
open PySem PySem.Spec L2 Zx
open PyProof.Rows hiding St
/-! ### all but one dict stands -/
structure Dx (s : Addr) (H H' : Hp) : Prop where
  dict : ∃ kvs, H s = some (.dK kvs)
  keep : ∀ a o, a ≠ s → H a = some o → H' a = some o
theorem Dx.refl {s : Addr} {H : Hp} {kvs : List (Key × V)} (h : H s = some (.dK kvs)) : Dx s H H := ⟨⟨kvs, h⟩, fun _ _ _ e => e⟩
theorem Dx.at {s a : Addr} {H H' : Hp} {o : HO} (x : Dx s H H') (e : H a = some o) (n : ∀ kvs, o ≠ .dK kvs) : H' a = some o := by
  obtain ⟨kvs, h⟩ := x.dict
  exact x.keep a o (fun z => by rw [z, h] at e; exact n _ (Option.some.inj e).symm) e
theorem Dx.rd {s a : Addr} {H H' : Hp} {o : HO} (x : Dx s H H') (e : Rd H a o) (n : ∀ kvs, o ≠ .dK kvs) : Rd H' a o := by
  rcases e with e | ⟨u, e⟩
  · exact .inl (x.at e n)
  · exact .inr ⟨u, x.at e fun _ z => by cases z⟩
theorem Dx.kx {s : Addr} {K : PySem.W.Frag} {H H' : Hp} (x : Dx s H H') : Kx K H H' := fun p xs =>
  ⟨fun h => h.imp (fun h => x.rd h fun _ z => by cases z) id, fun h => h.imp (fun h => x.rd h fun _ z => by cases z) id⟩
theorem Dx.tr {s : Addr} {H H1 H2 : Hp} (x : Dx s H H1) (y : Dx s H1 H2) : Dx s H H2 := ⟨x.dict, fun a o n h => y.keep a o n (x.keep a o n h)⟩
/-- further objects -/
theorem Dx.ex {s : Addr} {H H1 H2 : Hp} (x : Dx s H H1) (e : Ex H1 H2) : Dx s H H2 := ⟨x.dict, fun a o n h => e _ _ (x.keep a o n h)⟩
/-- the dict itself -/
theorem Dx.put {s : Addr} {H H1 : Hp} {o : HO} (x : Dx s H H1) : Dx s H (upd H1 s o) := ⟨x.dict, fun a o n h => by rw [upd_ne n]; exact x.keep a o n h⟩
/-- seen from before the dict was made -/
theorem Dx.from {s : Addr} {H0 H H' : Hp} (x : Dx s H H') (n : H0 s = none) (e : Ex H0 H) : Ex H0 H' := fun a o h => x.keep a o (fun z => by rw [z, n] at h; cases h) (e _ _ h)
theorem s_dnew {σ : L2.St} {H : Hp} {Q : VK} (h : ∀ p, H p = none → Q (.ref p) (upd H p (.dK []))) : tDNewK σ H Q := h
/-- a text-keyed dict asked -/
theorem dget_s {H : Hp} {a : Addr} {kvs : List (Key × V)} {n : Str} {o : Option V} (h : H a = some (.dK kvs)) (e : valV kvs (.inr n) = o) : DGet H a (.str n) o := by rw [← e]; exact DGet.k (k := .inr n) h
theorem dput_s {H : Hp} {a : Addr} {kvs kvs' : List (Key × V)} {n : Str} {v : V} (h : H a = some (.dK kvs)) (l : kvs.length < sizeLine) (e : putK kvs (.inr n) v = kvs') : DPut H a (.str n) v (upd H a (.dK kvs')) := by rw [← e]; exact DPut.k (k := .inr n) h l
/-- what follows, far away: its ends as letters -/
theorem s_far {tb : TS} {D : Ends} {σ : L2.St} {H : Hp} (h : ∀ D' : Ends, (∀ σ H, D.nx σ H → D'.nx σ H) → (∀ σ H, D.ct σ H → D'.ct σ H) → (∀ σ H, D.bk σ H → D'.bk σ H) → (∀ v H, D.rt v H → D'.rt v H) → tb D' σ H) : tb D σ H := h D (fun _ _ z => z) (fun _ _ z => z) (fun _ _ z => z) (fun _ _ z => z)
theorem s_ick {c : Prop} [Decidable c] {A B : Prop} (h : if c then A else B) : if c then A else B := h
/-- an if whose first suite is read once, where M holds -/
theorem s_ifM {t : TT} {s1 s2 : TS} {D : Ends} {σ : L2.St} {H : Hp} (M : Prop) (h1 : M → s1 D σ H) (h2 : ∀ P1 : L2.St → Hp → Prop, (M → P1 σ H) → t σ H fun b H1 => if b = true then P1 σ H1 else s2 D σ H1) : tIfS t s1 s2 D σ H := h2 (s1 D) h1
/-! ### terms that give a text of bounded length -/
/-- d: its greatest length -/
class TxE (K : PySem.W.Frag) (σ : L2.St) (te : TE) (d : outParam Nat) : Prop where
  h : d ≤ 1000000 → ∀ (H : Hp) (Q : VK), (∀ z : Str, z.length ≤ d → Q (.str z) H) → te σ H Q
section
variable {K : PySem.W.Frag} {σ : L2.St}
instance (z : Str) : TxE K σ (tC (.str z)) z.length := ⟨fun _ H Q q => q z (Nat.le_refl _)⟩
instance {te tf : TE} {d e : Nat} [h1 : TxE K σ te d] [h2 : TxE K σ tf e] : TxE K σ (tOp (uAdd K) te tf) (d + e) := ⟨fun l H Q q => h1.h (by omega) H _ fun a ha => h2.h (by omega) H _ fun b hb =>
  ⟨by show _ ≤ 16777216; omega, q _ (by
    have e : (a ++ b).length = a.length + b.length := by
      show (a ++ b).cps.size = _
      rw [Str.cps_append, Array.size_append]
      rfl
    omega)⟩⟩
theorem txv {i : Nat} {z : Str} {d : Nat} (h : σ[i]? = some (some (.str z))) (l : z.length ≤ d) : TxE K σ (tVar i) d := ⟨fun _ H Q q => ⟨_, h, q z l⟩⟩
theorem txe_add {te tf : TE} {d e : Nat} (h1 : TxE K σ te d) (h2 : TxE K σ tf e) : TxE K σ (tOp (uAdd K) te tf) (d + e) := inferInstance
theorem txe_c (z : Str) : TxE K σ (tC (.str z)) z.length := inferInstance
/-- a row of such texts -/
class TxA (K : PySem.W.Frag) (σ : L2.St) (ts : TA) (d : outParam Nat) (n : outParam Nat) : Prop where
  h : d ≤ 1000000 → ∀ (H : Hp) (Q : List V → Hp → Prop), (∀ zs : List Str, (∀ z ∈ zs, z.length ≤ d) → zs.length = n → Q (zs.map V.str) H) → ts σ H Q
instance : TxA K σ tNil 0 0 := ⟨fun _ H Q q => q [] (fun z h => by cases h) rfl⟩
instance {te : TE} {ts : TA} {d e n : Nat} [h1 : TxE K σ te d] [h2 : TxA K σ ts e n] : TxA K σ (tCons te ts) (d + e) (n + 1) := ⟨fun l H Q q => h1.h (by omega) H _ fun a ha => h2.h (by omega) H _ fun zs hz hn => q (a :: zs) (fun z hm => by
  rcases List.mem_cons.mp hm with rfl | hm
  · omega
  · have := hz z hm; omega) (by rw [List.length_cons, hn])⟩
theorem txa_nil : TxA K σ tNil 0 0 := inferInstance
theorem txa_cons {te : TE} {ts : TA} {d e n : Nat} (h1 : TxE K σ te d) (h2 : TxA K σ ts e n) : TxA K σ (tCons te ts) (d + e) (n + 1) := inferInstance
/-- a written list of such texts -/
theorem s_txl {ts : TA} {d n : Nat} [h : TxA K σ ts d n] {H : Hp} {Q : VK} (hd : d ≤ 1000000) (hn : n ≤ 1000) (q : ∀ p (zs : List Str) H', H p = none → Ex H H' → H' p = some (.lst (zs.map V.str)) → (∀ z ∈ zs, z.length ≤ d) → zs.length = n → Q (.ref p) H') : tLst ts σ H Q :=
  h.h hd H _ fun zs hz hl => ⟨by rw [List.length_map, hl]; exact Nat.le_trans hn (by decide), fun p np => q p zs _ np (exN np) upd_same hz hl⟩
theorem s_txl' {ts : TA} {d n : Nat} {H : Hp} {Q : VK} (h : TxA K σ ts d n) (hd : d ≤ 1000000) (hn : n ≤ 1000) (q : ∀ p (zs : List Str) H', H p = none → Ex H H' → H' p = some (.lst (zs.map V.str)) → (∀ z ∈ zs, z.length ≤ d) → zs.length = n → Q (.ref p) H') : tLst ts σ H Q := s_txl (h := h) hd hn q
/-- [expression for name in list of texts] -/
theorem s_txc {p : Addr} {zs : List Str} {i : Nat} {te : TE} {vs : List Nat} {Q : VK} {H : Hp} {d : Nat} (hp : SqL K H p (zs.map V.str)) (hl : zs.length ≤ 100000) (hd : d ≤ 1000000) (hw : ∀ v : V, wipe ((wipe σ vs).set i (some v)) vs = wipe σ vs) (ht : ∀ z ∈ zs, TxE K ((wipe σ vs).set i (some (.str z))) te d)
    (q : ∀ r (ys : List Str) H', H r = none → Ex H H' → H' r = some (.lst (ys.map V.str)) → (∀ y ∈ ys, y.length ≤ d) → ys.length = zs.length → Q (.ref r) H') : ∃ a, V.ref p = V.ref a ∧ (∃ xs, SqL K H a xs) ∧ LcR (Itl K a) (gName i) tYes te vs Q σ H := by
  refine lcL hp (fun D i acc H' => Ex H H' ∧ ∃ ys : List Str, H' D = some (.lst (ys.map V.str)) ∧ (∀ y ∈ ys, y.length ≤ d) ∧ ys.length = i) (fun D n => ⟨exN n, [], upd_same, (fun y h => by cases h), rfl⟩) (fun D i acc H' h => h.1) (fun D acc H' n ⟨e, ys, h1, h2, h3⟩ => q D ys H' n e h1 h2 (by rw [h3, List.length_map])) ?_
  rintro D j x acc H' nD hx ⟨e, ys, h1, h2, h3⟩
  obtain ⟨z, hz, rfl⟩ : ∃ z, z ∈ zs ∧ x = .str z := by
    obtain ⟨z, hm, e⟩ := List.mem_map.mp (List.mem_of_getElem? hx)
    exact ⟨z, hm, e.symm⟩
  have hj : j < (zs.map V.str).length := (List.getElem?_eq_some_iff.mp hx).1
  rw [List.length_map] at hj
  refine ⟨hw _, ?_⟩
  refine s_yes (s_iT ?_)
  exact (ht z hz).h hd H' _ fun y hy => ⟨_, h1, by rw [List.length_map, h3]; show _ < 16777216; omega, [], ex_put nD e, ys ++ [y], by rw [List.map_append]; exact upd_same, fun w hw => by
    rcases List.mem_append.mp hw with hw | hw
    · exact h2 w hw
    · rw [List.mem_singleton.mp hw]; exact hy, by rw [List.length_append, h3]; rfl⟩
/-- [expression for name in list of texts], the texts known -/
theorem s_mapc {p : Addr} {zs : List Str} {g : Str → Str} {i : Nat} {te : TE} {vs : List Nat} {Q : VK} {H : Hp} (hp : SqL K H p (zs.map V.str)) (hl : zs.length ≤ 100000) (hw : ∀ v : V, wipe ((wipe σ vs).set i (some v)) vs = wipe σ vs) (ht : ∀ z ∈ zs, ∀ (H : Hp) (Q : VK), Q (.str (g z)) H → te ((wipe σ vs).set i (some (.str z))) H Q)
    (q : ∀ r H', H r = none → Ex H H' → H' r = some (.lst ((zs.map g).map V.str)) → Q (.ref r) H') : ∃ a, V.ref p = V.ref a ∧ (∃ xs, SqL K H a xs) ∧ LcR (Itl K a) (gName i) tYes te vs Q σ H := by
  refine lcL hp (fun D j acc H' => Ex H H' ∧ H' D = some (.lst (((zs.take j).map g).map V.str))) (fun D n => ⟨exN n, upd_same⟩) (fun D i acc H' h => h.1) (fun D acc H' n ⟨e, h1⟩ => q D H' n e (by rw [List.length_map, List.take_length] at h1; exact h1)) ?_
  rintro D j x acc H' nD hx ⟨e, h1⟩
  obtain ⟨z, hz, rfl⟩ : ∃ z, zs[j]? = some z ∧ x = .str z := by
    rw [List.getElem?_map] at hx
    cases q : zs[j]? with
    | none => rw [q] at hx; cases hx
    | some b => rw [q] at hx; cases hx; exact ⟨b, rfl, rfl⟩
  have hj : j < zs.length := (List.getElem?_eq_some_iff.mp hz).1
  refine ⟨hw _, s_yes (s_iT ?_)⟩
  exact ht z (List.mem_of_getElem? hz) H' _ ⟨_, h1, by rw [List.length_map, List.length_map, List.length_take]; show _ < 16777216; omega, [], ex_put nD e, by rw [List.take_add_one, hz, List.map_append, List.map_append]; exact upd_same⟩
/-- [a def that draws a text, for name in list of texts] -/
theorem s_drawc {b p : Addr} {zs : List Str} {i d : Nat} {te : TE} {vs : List Nat} {Q : VK} {H : Hp} (hb : BagAt H b) (hp : SqL K H p (zs.map V.str)) (hl : zs.length ≤ 100000) (hw : ∀ v : V, wipe ((wipe σ vs).set i (some v)) vs = wipe σ vs)
    (ht : ∀ z ∈ zs, ∀ (H : Hp) (Q : VK), BagAt H b → (∀ (y : Str) H', y.length ≤ d → Kb b H H' → Q (.str y) H') → te ((wipe σ vs).set i (some (.str z))) H Q)
    (q : ∀ r (ys : List Str) H', Kb b H H' → H' r = some (.lst (ys.map V.str)) → (∀ y ∈ ys, y.length ≤ d) → ys.length = zs.length → Q (.ref r) H') : ∃ a, V.ref p = V.ref a ∧ (∃ xs, SqL K H a xs) ∧ LcR (Itl K a) (gName i) tYes te vs Q σ H := by
  refine ⟨p, rfl, ⟨_, hp⟩, lc_d (zs.map V.str).length (fun D j acc H' => Kb b H H' ∧ ∃ ys : List Str, H' D = some (.lst (ys.map V.str)) ∧ (∀ y ∈ ys, y.length ≤ d) ∧ ys.length = j) (fun D n => ⟨(exN n).kb hb, [], upd_same, (fun y h => by cases h), rfl⟩) (fun D acc H' n h => ⟨_, h.1.l hp, Nat.le_refl _⟩) (fun D i acc H' n h z => ⟨_, _, h.1.l hp, List.getElem?_eq_getElem z⟩) (fun D acc H' n ⟨e, ys, h1, h2, h3⟩ => q D ys H' e h1 h2 (by rw [h3, List.length_map])) fun D j x acc H2 H' nD z ⟨e, ys, h1, h2, h3⟩ y => ?_⟩
  obtain ⟨rfl, y⟩ := y
  have hx := y _ (e.l hp)
  obtain ⟨z', hz, rfl⟩ : ∃ z, zs[j]? = some z ∧ x = .str z := by
    rw [List.getElem?_map] at hx
    cases q : zs[j]? with
    | none => rw [q] at hx; cases hx
    | some b => rw [q] at hx; cases hx; exact ⟨b, rfl, rfl⟩
  have hj : j < zs.length := (List.getElem?_eq_some_iff.mp hz).1
  refine ⟨hw _, s_yes (s_iT ?_)⟩
  exact ht z' (List.mem_of_getElem? hz) H' _ e.b1 fun w H3 lw kw => ⟨_, kw.at h1 (fun _ z => by cases z), by rw [List.length_map, h3]; show _ < 16777216; omega, [], (e.tr kw).put nD _, ys ++ [w], by rw [List.map_append]; exact upd_same, fun u hu => by
    rcases List.mem_append.mp hu with hu | hu
    · exact h2 u hu
    · rw [List.mem_singleton.mp hu]; exact lw, by rw [List.length_append, h3]; rfl⟩
end
end Uv

set_option Elab.async false
set_option linter.all false
set_option maxRecDepth 100000
set_option maxHeartbeats 4000000
namespace Uv
open PySem PySem.Spec L2
open PyProof.Rows hiding St
/-! ### methods, makings, operators, statics of own classes, where no repr is running -/
structure CalM (P : Program) (w : World) (K : PySem.W.Frag) (mg : Str → Option Value) (base : Heap) (k : Nat) (C : Addr) (m : Str) (ps : List Str) (sp : Sp) : Prop where
  cls : Cls K C
  ex : ∃ (f : Addr) (fd : FuncData), FnG P w K mg base k f fd ps sp ∧ Meth K C m f ∧ Binds K fd ps []
structure CalC (P : Program) (w : World) (K : PySem.W.Frag) (mg : Str → Option Value) (base : Heap) (k : Nat) (x : Str) (C : Addr) (ps : List Str) (sp : Sp) : Prop where
  gl : mg x = some (.ref C)
  ex : ∃ (f : Addr) (fd : FuncData), FnG P w K mg base k f fd ps sp ∧ Mk K C f ∧ Binds K fd ps []
/-- o.m(..), o an instance of C -/
def uMeth (C : Addr) (m : Str) (sp : Sp) (E : L2.St → XK) (ta : TE) (t : TA) : TE := fun σ H Q => ta σ H fun x H1 => ∃ a dx fs, x = .ref a ∧ H1 a = some (.ins C dx fs) ∧ fs.lookup m = none ∧ t σ H1 fun vs H2 => sp (.ref a :: vs) H2 Q (E σ)
/-- C(..) -/
def uMake (C : Addr) (sp : Sp) (E : L2.St → XK) (t : TA) : TE := fun σ H Q => t σ H fun vs H1 => ∀ x dx, H1 x = none → H1 dx = none → dx ≠ x → sp (.ref x :: vs) (upd (upd H1 dx (.own x)) x (.ins C dx [])) (fun v H2 => v = .non ∧ Q (.ref x) H2) (E σ)
/-- a op b, a an instance of C with an own def for op -/
def uOwn (C : Addr) (sp : Sp) (E : L2.St → XK) (ta tb : TE) : TE := fun σ H Q => ta σ H fun x H1 => tb σ H1 fun y H2 => ∃ a dx fs b dy gs, x = .ref a ∧ y = .ref b ∧ H2 a = some (.ins C dx fs) ∧ H2 b = some (.ins C dy gs) ∧ sp [x, y] H2 Q (E σ)
/-- -a -/
def uNegO (C : Addr) (sp : Sp) (E : L2.St → XK) (ta : TE) : TE := fun σ H Q => ta σ H fun x H1 => ∃ a dx fs, x = .ref a ∧ H1 a = some (.ins C dx fs) ∧ sp [x] H1 Q (E σ)
/-- a == y, a an instance of C -/
def uCmpO (K : PySem.W.Frag) (C : Addr) (sp : Sp) (E : L2.St → XK) (ta tb : TE) : TE := fun σ H Q => ta σ H fun x H1 => tb σ H1 fun y H2 => ∃ a dx fs t, x = .ref a ∧ H2 a = some (.ins C dx fs) ∧ TyX K H2 y t ∧ PySem.W.notFirst K C t = true ∧ sp [x, y] H2 Q (E σ)
section
variable {X : Cx} {k : Nat} {C : Addr} {ps : List Str} {sp : Sp} {E : L2.St → XK} {x m : Str} {p pos apos : Pos} {e o a b : Expr} {es : List Expr} {t : TA} {ta tb : TE}
theorem pe_mG {pl : Sem Bool} (he : PE X o ta) (c : CalM X.prog X.w X.K X.mg X.base k C m ps sp) (hr : Rm k X.A) (hx : ∀ σ, PassesAt (L2.CX X.prog X.w) X σ (E σ)) (ha : PA X (e :: es) t)
    (hst : starEach (e :: es) X.env = (false, eval e X.env) :: starEach es X.env := by rfl) (hpl : (backTo pos (starEach es X.env)).any (·.1) = false := by rfl)
    (ht : eval (.Call (.Attribute o m apos) (e :: es) [] pos) X.env = (do
      let ov ← eval o X.env
      standAt apos.atName
      let (f, first) ← holding [ov] (getMethod ov m pl)
      callWith pos f first (backTo pos (starEach (e :: es) X.env)) (backToKw pos (keywordEach [] X.env))) := by rfl) :
    PE X (.Call (.Attribute o m apos) (e :: es) [] pos) (uMeth C m sp E ta t) := by
  obtain ⟨cl, f, fd, F, hm, hb⟩ := c
  refine ⟨fun pins s σ H Q I h => ?_⟩
  refine PySem.W.methodCall_KW (pl := pl) (thn (he.run pins s σ H _ I h) fun u s1 ⟨x, H1, I1, rx, a, dx, fs, ex, ea, l, q⟩ => ?_) ht
  subst ex
  obtain rfl : u = Value.ref a := rx
  refine getmeth_ok I1 ea cl hm l ?_
  refine PySem.W.callWith_K (first := [.ref a]) (h₀ := X.base) I.ok.mod.kin hm.kp (thn (ha.run pos pins s1 σ H1 _ I1 q) fun us s2 ⟨vs, H2, I2, r, q2⟩ => ⟨I2.kIn, ?_⟩) hst hpl
  exact run_cal (us := .ref a :: us) (vs := .ref a :: vs) F hr hb .nil (hx σ) I2 (.cons rfl r) (by rw [List.append_nil]; exact q2)
theorem pe_mG0 {pl : Sem Bool} (he : PE X o ta) (c : CalM X.prog X.w X.K X.mg X.base k C m ps sp) (hr : Rm k X.A) (hx : ∀ σ, PassesAt (L2.CX X.prog X.w) X σ (E σ))
    (ht : eval (.Call (.Attribute o m apos) [] [] pos) X.env = (do
      let ov ← eval o X.env
      standAt apos.atName
      let (f, first) ← holding [ov] (getMethod ov m pl)
      callWith pos f first (backTo pos (starEach [] X.env)) (backToKw pos (keywordEach [] X.env))) := by rfl) :
    PE X (.Call (.Attribute o m apos) [] [] pos) (uMeth C m sp E ta tNil) := by
  obtain ⟨cl, f, fd, F, hm, hb⟩ := c
  refine ⟨fun pins s σ H Q I h => ?_⟩
  refine PySem.W.methodCall_KW (pl := pl) (thn (he.run pins s σ H _ I h) fun u s1 ⟨x, H1, I1, rx, a, dx, fs, ex, ea, l, q⟩ => ?_) ht
  subst ex
  obtain rfl : u = Value.ref a := rx
  refine getmeth_ok I1 ea cl hm l ?_
  exact PySem.W.callWith_K0 (first := [.ref a]) I1.kIn hm.kp (run_cal (us := [.ref a]) (vs := [.ref a]) F hr hb .nil (hx σ) I1 (.cons rfl .nil) q)
theorem run_mkG {pins : List (Addr × Obj)} {σ : L2.St} {H : Hp} {s : Shared} {Q : VK} {us : List Value} {vs : List V} {f : Addr} {fd : FuncData} (M : Mk X.K C f) (F : FnG X.prog X.w X.K X.mg X.base k f fd ps sp) (hr : Rm (k + 1) X.A) (hb : Binds X.K fd ps [])
    (hx : PassesAt (L2.CX X.prog X.w) X σ (E σ)) (I : Inv X pins σ H s) (r : Vals vs us)
    (h : ∀ x dx, H x = none → H dx = none → dx ≠ x → sp (.ref x :: vs) (upd (upd H dx (.own x)) x (.ins C dx [])) (fun v H2 => v = .non ∧ Q (.ref x) H2) (E σ)) :
    wpAny (model X.prog X.w) X.A (call (.ref C) us) (EP X pins σ Q) X.xe s := by
  have hq := h (s.heap.objs.size + 1) s.heap.objs.size (I.hok.fresh (Nat.le_succ _)) (I.hok.fresh (Nat.le_refl _)) (Nat.ne_of_lt (Nat.lt_succ_self _))
  have I2 := Inv.made (C := C) I
  have r2 : Vals (V.ref (s.heap.objs.size + 1) :: vs) (Value.ref (s.heap.objs.size + 1) :: us) := .cons rfl r
  have hl : (Value.ref (s.heap.objs.size + 1) :: us ++ []).length = ps.length := by
    have e := r2.length
    rw [F.len _ _ _ _ hq] at e
    rw [List.append_nil]
    exact e.symm
  have hb2 := hb _ (Value.ref (s.heap.objs.size + 1) :: us) I2.kIn hl
  rw [List.append_nil] at hb2
  refine wpAny_call (make_map (f := f) I.kIn M.makes M.init (beq_iff_eq.mp M.fn) (codeAny_mono (F.run _ X.stack _ _ ⟨Value.ref (s.heap.objs.size + 1) :: us, []⟩ (Value.ref (s.heap.objs.size + 1) :: us) _ _ (E σ) (hr.r.make C us [])
    (by have g := hr.g; first | exact g | (simpa [Around.under] using g)) (I2.env0.make C us []) hb2 r2 hq) fun r s' hq' => ?_))
  cases r with
  | error e => exact hx pins _ _ e s' I2 hq'
  | ok fl =>
    cases fl with
    | ret u =>
      obtain ⟨v, H', I3, rv, ev, q3⟩ := I2.after hq'
      subst ev
      exact ⟨rv, ⟨V.ref (s.heap.objs.size + 1), H', I3, rfl, q3⟩⟩
    | next => exact False.elim hq'
    | brk => exact False.elim hq'
    | cont => exact False.elim hq'
theorem pe_mkG (c : CalC X.prog X.w X.K X.mg X.base k x C ps sp) (hr : Rm (k + 1) X.A) (hx : ∀ σ, PassesAt (L2.CX X.prog X.w) X σ (E σ)) (ha : PA X (e :: es) t) (hg : Gl X x := by rfl) (hdb : (x == ("__debug__" : Str)) = false := by decide)
    (he : starEach (e :: es) X.env = (false, eval e X.env) :: starEach es X.env := by rfl) (hpl : (backTo pos (starEach es X.env)).any (·.1) = false := by rfl) : PE X (.Call (.Name x p) (e :: es) [] pos) (uMake C sp E t) := by
  obtain ⟨gl, f, fd, F, M, hb⟩ := c
  refine ⟨fun pins s σ H Q I h => ?_⟩
  refine wpAny_Call_Name_kw (ld_glob I hg gl ?_ hdb)
  refine PySem.W.callWith_K (h₀ := X.base) I.ok.mod.kin M.kp (thn (ha.run pos pins s σ H _ I h) fun us s1 ⟨vs, H1, I1, r, q⟩ => ⟨I1.kIn, ?_⟩) he hpl
  exact run_mkG M F hr hb (hx σ) I1 r q
/-! operators -/
theorem pe_own {op : Operator} (ha : PE X a ta) (hb : PE X b tb) (c : CalM X.prog X.w X.K X.mg X.base k C (PySem.dunder op.info.2) ps sp) (sf : PySem.W.selfFirst X.K C = true) (hr : Rm k X.A) (hx : ∀ σ, PassesAt (L2.CX X.prog X.w) X σ (E σ)) :
    PE X (.BinOp a op b pos) (uOwn C sp E ta tb) := by
  obtain ⟨cl, f, fd, F, hm, hbd⟩ := c
  refine ⟨fun pins s σ H Q I h => ?_⟩
  refine wpAny_BinOp (binT ha hb I h fun v u s2 x y H2 I2 rx ry ⟨a, dx, fs, b, dy, gs, ex, ey, ea, eb, q⟩ => ?_)
  subst ex ey
  cases (show v = Value.ref a from rx)
  cases (show u = Value.ref b from ry)
  obtain ⟨mA, J, _⟩ := ins_get I2.hok ea
  obtain ⟨mB, J', _⟩ := ins_get I2.hok eb
  obtain ⟨od, J, _⟩ := J.look
  obtain ⟨od', J', _⟩ := J'.look
  obtain ⟨mm, hF⟩ := I2.fr
  refine PySem.W.binop_K hF I2.ok.mod.kin J J'.type sf hm.at_ hm.fn ?_
  refine wpAny_mono (run_cal (us := [.ref a, .ref b]) (vs := [.ref a, .ref b]) F hr hbd .nil (hx σ) I2 (.cons rfl (.cons rfl .nil)) q) (fun w s' z => ?_) fun _ _ x => x
  obtain ⟨z', H', I', rz, qz⟩ := z
  exact SlX.cmpback rz ⟨z', H', I', rz, qz⟩
theorem pe_negO (ha : PE X a ta) (c : CalM X.prog X.w X.K X.mg X.base k C "__neg__" ps sp) (hr : Rm k X.A) (hx : ∀ σ, PassesAt (L2.CX X.prog X.w) X σ (E σ)) : PE X (.UnaryOp .USub a pos) (uNegO C sp E ta) := by
  obtain ⟨cl, f, fd, F, hm, hbd⟩ := c
  refine ⟨fun pins s σ H Q I h => ?_⟩
  refine UnaryOp_ (thn (ha.run pins s σ H _ I h) fun v s1 ⟨x, H1, I1, r1, a, dx, fs, ex, ea, q⟩ => ?_)
  subst ex
  cases (show v = Value.ref a from r1)
  obtain ⟨mA, J, _⟩ := ins_get I1.hok ea
  obtain ⟨od, J, _⟩ := J.look
  obtain ⟨mm, hF⟩ := I1.fr
  exact PySem.W.ksp_neg hF I1.ok.mod.kin J hm.at_ hm.fn (run_cal (us := [.ref a]) (vs := [.ref a]) F hr hbd .nil (hx σ) I1 (.cons rfl .nil) q)
theorem cmp_own {pins : List (Addr × Obj)} {s : Shared} {σ : L2.St} {H : Hp} {x y : V} {v u : Value} {Q : VK} (c : CalM X.prog X.w X.K X.mg X.base k C "__eq__" ps sp) (hr : Rm k X.A) (hx : PassesAt (L2.CX X.prog X.w) X σ (E σ)) (I : Inv X pins σ H s)
    (rx : RelV x v) (ry : RelV y u) (h : ∃ a dx fs t, x = .ref a ∧ H a = some (.ins C dx fs) ∧ TyX X.K H y t ∧ PySem.W.notFirst X.K C t = true ∧ sp [x, y] H Q (E σ)) : wpAny (model X.prog X.w) X.A (compareOp .Eq v u) (EP X pins σ Q) X.xe s := by
  obtain ⟨cl, f, fd, F, hm, hbd⟩ := c
  obtain ⟨a, dx, fs, t, rfl, ea, ty, nf, q⟩ := h
  cases (show v = Value.ref a from rx)
  obtain ⟨mA, J, _⟩ := ins_get I.hok ea
  obtain ⟨od, J, _⟩ := J.look
  obtain ⟨mm, hF⟩ := I.fr
  obtain ⟨P, kx, hp, _⟩ := kit_of I ry ty
  show wpAny (model X.prog X.w) X.A (richCompare .Eq (.ref a) u) (EP X pins σ Q) X.xe s
  refine PySem.W.cmp_K (op := .Eq) (tb := t) hr.r.units0 hF I.ok.mod.kin J (kx.ty _ _ I.kIn hp) nf hm.at_ hm.fn ?_
  refine wpAny_mono (run_cal (us := [.ref a, u]) (vs := [.ref a, y]) F hr hbd .nil hx I (.cons rfl (.cons ry .nil)) q) (fun w s' z => ?_) fun _ _ x => x
  obtain ⟨z', H', I', rz, qz⟩ := z
  exact SlX.cmpback rz ⟨z', H', I', rz, qz⟩
theorem pe_cmpO (ha : PE X a ta) (hb : PE X b tb) (c : CalM X.prog X.w X.K X.mg X.base k C "__eq__" ps sp) (hr : Rm k X.A) (hx : ∀ σ, PassesAt (L2.CX X.prog X.w) X σ (E σ)) (hm : behindInMarks .Eq b = false := by rfl) : PE X (.Compare a [.Eq] [b] pos) (uCmpO X.K C sp E ta tb) := by
  refine ⟨fun pins s σ H Q I h => ?_⟩
  exact wpAny_Compare1 (binT ha hb I h fun v u s2 x y H2 I2 rx ry q => cmp_own c hr (hx σ) I2 rx ry q) hm
theorem pt_cmpO (ha : PE X a ta) (hb : PE X b tb) (c : CalM X.prog X.w X.K X.mg X.base k C "__eq__" ps sp) (hr : Rm k X.A) (hx : ∀ σ, PassesAt (L2.CX X.prog X.w) X σ (E σ)) (hm : behindInMarks .Eq b = false := by rfl) : PT X (.Compare a [.Eq] [b] pos) (tTest (uCmpO X.K C sp E ta tb)) := by
  refine ⟨fun pins s σ H Q I h => ?_⟩
  refine wpAny_isTrue_Compare1 (thn (ha.run pins s σ H _ I h) fun v s1 ⟨x, H1, I1, r1, q1⟩ => thn (hb.run pins s1 σ H1 _ I1 q1) fun u s2 ⟨y, H2, I2, r2, q2⟩ =>
    thn (cmp_own c hr (hx σ) I2 r1 r2 q2) fun c s3 ⟨z, H3, I3, r3, k, e, q3⟩ => ?_) hm
  subst e
  cases r3
  exact wpAny_truthy_bool ⟨H3, I3, q3⟩
end
/-! statics -/
/-- C.m is a staticmethod: its record at p, its def at g; mc: the class of C -/
structure CSt (K : PySem.W.Frag) (C : Addr) (mc : Value) (m : Str) (p g : Addr) : Prop where
  rd : PySem.W.readsIn K C mc = true
  ga : PySem.W.specialIn K (.ref C) "__getattribute__" = some (some (.builtin "type.__getattribute__"))
  atc : PySem.W.findCls K (.ref C) mc m = some (.get (.builtin "staticmethod.__get__") (.ref p) .none (.ref C))
  rc : ∃ rest, PySem.W.recIn K p "staticmethod" = some (.ref g :: rest)
  kp : PySem.W.keepIn K (.ref g) = true
  pg : PySem.W.plainGet K C Str.empty = true
  ic : PySem.W.isClsIn K C = true
  at_ : PySem.W.findIn K (.ref C) m = some (some (.ref p))
  ty : PySem.W.typeIn K (.ref p) = some (.type "staticmethod")
  get : PySem.W.specialIn K (.ref p) "__get__" = some (some (.builtin "staticmethod.__get__"))
  tk : PySem.W.takesIn K (.ref p) = some false
  cp : PySem.W.copiedNames.contains m = false
theorem CSt.get' {K : PySem.W.Frag} {C : Addr} {mc : Value} {m : Str} {p g : Addr} (k : CSt K C mc m p g) : PySem.W.plainGet K C m = true := k.pg
structure CalS (P : Program) (w : World) (K : PySem.W.Frag) (mg : Str → Option Value) (base : Heap) (k : Nat) (C : Addr) (m : Str) (ps : List Str) (sp : Sp) : Prop where
  ex : ∃ (mc : Value) (p g : Addr) (fd : FuncData), FnG P w K mg base k g fd ps sp ∧ CSt K C mc m p g ∧ Binds K fd ps []
/-- C.m(..) -/
def uStC (C : Addr) (sp : Sp) (E : L2.St → XK) (ta : TE) (t : TA) : TE := fun σ H Q => ta σ H fun x H1 => x = .ref C ∧ t σ H1 fun vs H2 => sp vs H2 Q (E σ)
/-- o.m(..) -/
def uStI (C : Addr) (m : Str) (sp : Sp) (E : L2.St → XK) (ta : TE) (t : TA) : TE := fun σ H Q => ta σ H fun x H1 => ∃ a dx fs, x = .ref a ∧ H1 a = some (.ins C dx fs) ∧ fs.lookup m = none ∧ t σ H1 fun vs H2 => sp vs H2 Q (E σ)
section
variable {X : Cx} {k : Nat} {C : Addr} {ps : List Str} {sp : Sp} {E : L2.St → XK} {x m : Str} {p pos apos : Pos} {e o a b : Expr} {es : List Expr} {t : TA} {ta tb : TE}
theorem getst_c {pins : List (Addr × Obj)} {σ : L2.St} {H : Hp} {s : Shared} {A : Around} {Er : Value → Shared → Prop} {mc : Value} {p g : Addr} {pl : Sem Bool} {Q : Value × List Value → Shared → Prop} (I : Inv X pins σ H s) (r : CSt X.K C mc m p g)
    (h : ∀ s', Inv X pins σ H s' → Q (.ref g, []) s') : wpAny (model X.prog X.w) A (getMethod (.ref C) m pl) Q Er s := by
  obtain ⟨rest, hp⟩ := r.rc
  refine PySem.W.method_cls I.kIn r.ga (PySem.W.cls_bind I.kIn r.rd r.atc ?_)
  exact wpAny_call (PySem.W.sm_get (s := { s with toks := s.toks + 1 }) I.kIn hp (PySem.W.handed_on rfl (h _ (I.tok _))))
theorem getst_i {pins : List (Addr × Obj)} {σ : L2.St} {H : Hp} {s : Shared} {A : Around} {Er : Value → Shared → Prop} {mc : Value} {i p g : Addr} {ox od : Obj} {pl : Sem Bool} {Q : Value × List Value → Shared → Prop} (I : Inv X pins σ H s)
    (J : PySem.W.InstAt s.heap i ox C (some od)) (hl : PySem.W.lookIn m od = some none) (r : CSt X.K C mc m p g) (h : ∀ s', Inv X pins σ H s' → Q (.ref g, []) s') : wpAny (model X.prog X.w) A (getMethod (.ref i) m pl) Q Er s := by
  obtain ⟨rest, hp⟩ := r.rc
  refine PySem.W.method_usual (r := some (.ref p)) I.kIn J (PySem.W.plainGet_of r.get').1 (PySem.W.plainGet_of r.get').2 r.at_ ?_ ?_
  · show ((PySem.W.typeIn X.K (.ref p)).any fun t => t != .type "function" && t != .type "method_descriptor" && t != .type "wrapper_descriptor") = true
    rw [r.ty]
    first
    | rfl
    | decide +kernel
  · refine PySem.W.get_bind I.kIn J (PySem.W.plainGet_of r.get').1 (ClX.find_cm r.ic r.at_ r.get r.tk r.cp hl) (PySem.W.plainGet_of r.get').2 ?_
    exact wpAny_call (PySem.W.sm_get (s := { s with toks := s.toks + 1 }) I.kIn hp (PySem.W.handed_on rfl (h _ (I.tok _))))
theorem pe_stC {pl : Sem Bool} (he : PE X o ta) (c : CalS X.prog X.w X.K X.mg X.base k C m ps sp) (hr : Rm k X.A) (hx : ∀ σ, PassesAt (L2.CX X.prog X.w) X σ (E σ)) (ha : PA X (e :: es) t)
    (hst : starEach (e :: es) X.env = (false, eval e X.env) :: starEach es X.env := by rfl) (hpl : (backTo pos (starEach es X.env)).any (·.1) = false := by rfl)
    (ht : eval (.Call (.Attribute o m apos) (e :: es) [] pos) X.env = (do
      let ov ← eval o X.env
      standAt apos.atName
      let (f, first) ← holding [ov] (getMethod ov m pl)
      callWith pos f first (backTo pos (starEach (e :: es) X.env)) (backToKw pos (keywordEach [] X.env))) := by rfl) :
    PE X (.Call (.Attribute o m apos) (e :: es) [] pos) (uStC C sp E ta t) := by
  obtain ⟨mc, p, g, fd, F, r, hb⟩ := c
  refine ⟨fun pins s σ H Q I h => ?_⟩
  refine PySem.W.methodCall_KW (pl := pl) (thn (he.run pins s σ H _ I h) fun u s1 ⟨x, H1, I1, rx, ex, q⟩ => ?_) ht
  subst ex
  obtain rfl : u = Value.ref C := rx
  refine getst_c I1 r fun s2 I2 => ?_
  refine PySem.W.callWith_K (first := []) (h₀ := X.base) I.ok.mod.kin r.kp (thn (ha.run pos pins s2 σ H1 _ I2 q) fun us s3 ⟨vs, H2, I3, rv, q2⟩ => ⟨I3.kIn, ?_⟩) hst hpl
  exact run_cal (us := us) (vs := vs) F hr hb .nil (hx σ) I3 rv (by rw [List.append_nil]; exact q2)
theorem pe_stI {pl : Sem Bool} (he : PE X o ta) (c : CalS X.prog X.w X.K X.mg X.base k C m ps sp) (hr : Rm k X.A) (hx : ∀ σ, PassesAt (L2.CX X.prog X.w) X σ (E σ)) (ha : PA X (e :: es) t)
    (hst : starEach (e :: es) X.env = (false, eval e X.env) :: starEach es X.env := by rfl) (hpl : (backTo pos (starEach es X.env)).any (·.1) = false := by rfl)
    (ht : eval (.Call (.Attribute o m apos) (e :: es) [] pos) X.env = (do
      let ov ← eval o X.env
      standAt apos.atName
      let (f, first) ← holding [ov] (getMethod ov m pl)
      callWith pos f first (backTo pos (starEach (e :: es) X.env)) (backToKw pos (keywordEach [] X.env))) := by rfl) :
    PE X (.Call (.Attribute o m apos) (e :: es) [] pos) (uStI C m sp E ta t) := by
  obtain ⟨mc, p, g, fd, F, r, hb⟩ := c
  refine ⟨fun pins s σ H Q I h => ?_⟩
  refine PySem.W.methodCall_KW (pl := pl) (thn (he.run pins s σ H _ I h) fun u s1 ⟨x, H1, I1, rx, a, dx, fs, ex, ea, l, q⟩ => ?_) ht
  subst ex
  obtain rfl : u = Value.ref a := rx
  obtain ⟨mA, O, rr, _, _, _⟩ := ins_get I1.hok ea
  have hn : mA m = none := RelO.none_of (by rw [← l]; exact rr m)
  obtain ⟨od, J, hl⟩ := O.look
  refine getst_i I1 J (by rw [hl m, hn]) r fun s2 I2 => ?_
  refine PySem.W.callWith_K (first := []) (h₀ := X.base) I.ok.mod.kin r.kp (thn (ha.run pos pins s2 σ H1 _ I2 q) fun us s3 ⟨vs, H2, I3, rv, q2⟩ => ⟨I3.kIn, ?_⟩) hst hpl
  exact run_cal (us := us) (vs := vs) F hr hb .nil (hx σ) I3 rv (by rw [List.append_nil]; exact q2)
end
/-! steps -/
section
variable {K : PySem.W.Frag} {σ : L2.St} {H : Hp} {Q : VK} {E : L2.St → XK} {C : Addr} {sp : Sp} {ta tb : TE} {t : TA} {f m : Str} {D : Ends}
theorem s_fld (h : ta σ H fun x H1 => ∃ a C dx fs v, x = .ref a ∧ H1 a = some (.ins C dx fs) ∧ Cls K C ∧ NoAttr K C f ∧ fs.lookup f = some v ∧ Q v H1) : tFld K ta f σ H Q := h
theorem s_sfld (h : tb σ H fun y H1 => ta σ H1 fun x H2 => ∃ a C dx fs, x = .ref a ∧ H2 a = some (.ins C dx fs) ∧ Cls K C ∧ NoAttr K C f ∧ fs.length < 1000 ∧ D.nx σ (upd H2 a (.ins C dx (putF f y fs)))) : sFld K ta tb f D σ H := h
theorem s_mk (h : t σ H fun vs H1 => ∀ x dx, H1 x = none → H1 dx = none → dx ≠ x → sp (.ref x :: vs) (upd (upd H1 dx (.own x)) x (.ins C dx [])) (fun v H2 => v = .non ∧ Q (.ref x) H2) (E σ)) : uMake C sp E t σ H Q := h
theorem s_meth (h : ta σ H fun x H1 => ∃ a dx fs, x = .ref a ∧ H1 a = some (.ins C dx fs) ∧ fs.lookup m = none ∧ t σ H1 fun vs H2 => sp (.ref a :: vs) H2 Q (E σ)) : uMeth C m sp E ta t σ H Q := h
theorem s_ownO (h : ta σ H fun x H1 => tb σ H1 fun y H2 => ∃ a dx fs b dy gs, x = .ref a ∧ y = .ref b ∧ H2 a = some (.ins C dx fs) ∧ H2 b = some (.ins C dy gs) ∧ sp [x, y] H2 Q (E σ)) : uOwn C sp E ta tb σ H Q := h
theorem s_negO (h : ta σ H fun x H1 => ∃ a dx fs, x = .ref a ∧ H1 a = some (.ins C dx fs) ∧ sp [x] H1 Q (E σ)) : uNegO C sp E ta σ H Q := h
theorem s_cmpO (h : ta σ H fun x H1 => tb σ H1 fun y H2 => ∃ a dx fs t, x = .ref a ∧ H2 a = some (.ins C dx fs) ∧ TyX K H2 y t ∧ PySem.W.notFirst K C t = true ∧ sp [x, y] H2 Q (E σ)) : uCmpO K C sp E ta tb σ H Q := h
theorem s_stC (h : ta σ H fun x H1 => x = .ref C ∧ t σ H1 fun vs H2 => sp vs H2 Q (E σ)) : uStC C sp E ta t σ H Q := h
theorem s_stI (h : ta σ H fun x H1 => ∃ a dx fs, x = .ref a ∧ H1 a = some (.ins C dx fs) ∧ fs.lookup m = none ∧ t σ H1 fun vs H2 => sp vs H2 Q (E σ)) : uStI C m sp E ta t σ H Q := h
end
end Uv

set_option Elab.async false
set_option linter.all false
set_option maxRecDepth 100000
set_option maxHeartbeats 4000000
namespace Uv
open PySem PySem.Spec L2
open PyProof.Rows hiding St
/-! facts carried from heap to heap -/
theorem ex_at {H H' : Hp} {a : Addr} {o : HO} (h : H a = some o) (e : Ex H H') : H' a = some o := e _ _ h
theorem kb_at {b : Addr} {H H' : Hp} {a : Addr} {o : HO} (h : H a = some o) (x : Kb b H H') (n : ∀ kvs, o ≠ .dK kvs) : H' a = some o := x.at h n
theorem kb_t {b a : Addr} {K : PySem.W.Frag} {H H' : Hp} {xs : List V} (h : SqT K H a xs) (x : Kb b H H') : SqT K H' a xs := x.t h
theorem kb_l {b a : Addr} {K : PySem.W.Frag} {H H' : Hp} {xs : List V} (h : SqL K H a xs) (x : Kb b H H') : SqL K H' a xs := x.l h
theorem kb_dp {b : Addr} {K : PySem.W.Frag} {H H' : Hp} {v : V} {d : PyData} (h : Dp K H v d) (x : Kb b H H') : Dp K H' v d := x.dp h
theorem kb_e {b : Addr} {H H1 H2 : Hp} (h : Kb b H H1) (e : Ex H1 H2) : Kb b H H2 := h.tr (e.kb h.b1)
/-- a new object: its heap as a letter -/
@[elab_as_elim] theorem s_nw {H : Hp} {p : Addr} {o : HO} {P : Hp → Prop} (np : H p = none) (h : ∀ H', Ex H H' → H' p = some o → P H') : P (upd H p o) := h _ (exN np) upd_same
theorem s_tst {H : Hp} {p : Addr} {o : HO} {Q : V → Hp → Prop} (np : H p = none) (h : ∀ H', Ex H H' → H' p = some o → Q (.ref p) H') : Q (.ref p) (upd H p o) := by
  refine s_nw np fun H2 e2 f2 => ?_
  exact h H2 e2 f2
theorem ite_bool {c : Bool} {A B : Prop} (h1 : c = true → A) (h2 : c = false → B) : if c = true then A else B := by
  cases c
  · rw [if_neg (by simp)]; exact h2 rfl
  · rw [if_pos rfl]; exact h1 rfl
theorem mem_ix {xs : List V} {r : Int} (h0 : 0 ≤ r) (h1 : r < (xs.length : Int)) : ∃ v, atI xs r = some v ∧ v ∈ xs := by
  obtain ⟨j, rfl⟩ := Int.eq_ofNat_of_zero_le h0
  have hj : j < xs.length := by omega
  exact ⟨xs[j], atI_nat (List.getElem?_eq_getElem hj), List.getElem_mem hj⟩
end Uv

set_option Elab.async false
set_option linter.all false
set_option maxRecDepth 100000
set_option maxHeartbeats 4000000
namespace Uv
open PySem PySem.Spec L2
open PyProof.Rows hiding St
/-! what never changes: tuples, instances, what is frozen -/
def Imm : HO → Prop
  | .tup _ => True
  | .ins _ _ _ => True
  | .frz _ _ => True
  | .xd _ => True
  | .dT _ => True
  | .ext _ => True
  | _ => False
def Im (H H' : Hp) : Prop := ∀ a o, Imm o → H a = some o → H' a = some o
theorem im_refl (H : Hp) : Im H H := fun _ _ _ h => h
theorem Im.tr {H H1 H2 : Hp} (a : Im H H1) (b : Im H1 H2) : Im H H2 := fun x o i h => b x o i (a x o i h)
theorem Ex.im {H H' : Hp} (e : Ex H H') : Im H H' := fun a o _ h => e a o h
theorem Kb.im {b : Addr} {H H' : Hp} (k : Kb b H H') : Im H H' := fun a o i h => k.at h fun kvs z => by rw [z] at i; exact i
theorem sqt_im {K : PySem.W.Frag} {H H' : Hp} {a : Addr} {xs : List V} (h : SqT K H a xs) (m : Im H H') : SqT K H' a xs := by
  rcases h with (h | ⟨o, h⟩) | h
  · exact .inl (.inl (m _ _ trivial h))
  · exact .inl (.inr ⟨o, m _ _ trivial h⟩)
  · exact .inr h
theorem ins_im {H H' : Hp} {a C dx : Addr} {fs : List (Str × V)} (h : H a = some (.ins C dx fs)) (m : Im H H') : H' a = some (.ins C dx fs) := m _ _ trivial h
theorem im_mut {H : Hp} {p : Addr} {o : HO} (h : (∃ xs, H p = some (.lst xs)) ∨ ∃ kvs, H p = some (.dK kvs)) : Im H (upd H p o) := fun a u i e => by
  have n : a ≠ p := fun z => by
    subst z
    rcases h with ⟨xs, h⟩ | ⟨xs, h⟩ <;> rw [h] at e <;> cases e <;> exact i
  rw [upd_ne n]; exact e
/-- a list changed: its heap as a letter -/
@[elab_as_elim] theorem s_mw {H : Hp} {p : Addr} {o : HO} {xs : List V} {P : Hp → Prop} (m : H p = some (.lst xs)) (h : ∀ H', (∀ a u, a ≠ p → H a = some u → H' a = some u) → Im H H' → H' p = some o → P H') : P (upd H p o) :=
  h _ (fun a u n e => by rw [upd_ne n]; exact e) (im_mut (.inl ⟨_, m⟩)) upd_same
theorem kb_mx {b p : Addr} {H0 H H' : Hp} {o : HO} (n : H0 p = none) (k : Kb b H0 H) (m : ∀ a u, a ≠ p → H a = some u → H' a = some u) (f : H' p = some o) : Kb b H0 H' := by
  have z := k.put n o
  obtain ⟨c, h1, ns, a, r, mm, kk, y⟩ := z.bag
  have nb : b ≠ p := fun q => by
    obtain ⟨_, _, _, _, _, w⟩ := h1
    rw [← q, w.d] at n; cases n
  have nc : c ≠ p := fun q => by
    obtain ⟨_, _, _, _, _, w⟩ := h1
    rw [← q, w.l] at n; cases n
  have yd := y.d
  have yl := y.l
  rw [upd_ne nb] at yd
  rw [upd_ne nc] at yl
  exact ⟨⟨c, h1, ns, a, r, mm, kk, m _ _ nb yd, m _ _ nc yl, y.nn, y.sz⟩, fun a' o' na e => by
    have na2 : a' ≠ p := fun q => by rw [q, n] at e; cases e
    exact m _ _ na2 (k.keep a' o' na e)⟩
theorem ex_mx {p : Addr} {H0 H H' : Hp} (n : H0 p = none) (k : Ex H0 H) (m : ∀ a u, a ≠ p → H a = some u → H' a = some u) : Ex H0 H' := fun a u e =>
  m a u (fun q => by rw [q, n] at e; cases e) (k a u e)
theorem mx_at {a p : Addr} {H H' : Hp} {o : HO} {xs : List V} (h : H a = some o) (m : ∀ a u, a ≠ p → H a = some u → H' a = some u) (n : a ≠ p) : H' a = some o := m _ _ n h
theorem mx_l {K : PySem.W.Frag} {a p : Addr} {H H' : Hp} {xs : List V} (h : SqL K H a xs) (m : ∀ a u, a ≠ p → H a = some u → H' a = some u) (n : a ≠ p) : SqL K H' a xs := by
  rcases h with (h | ⟨o, h⟩) | h
  · exact .inl (.inl (m _ _ n h))
  · exact .inl (.inr ⟨o, m _ _ n h⟩)
  · exact .inr h
end Uv

set_option Elab.async false
set_option linter.all false
set_option maxRecDepth 100000
set_option maxHeartbeats 4000000
namespace Uv
open PySem PySem.Spec L2
open PyProof.Rows hiding St
theorem hu65 {k : Nat} {A : Around} (r : Room k A) : A.units + 65 < cLine := by have := r.un; omega
theorem op_inDK {X : Cx} {K : PySem.W.Frag} (e : X.K = K) (hu : X.A.units + 65 < cLine) : OpR X (compareOp .In) (rInD K) := by subst e; exact op_inD hu
theorem op_notInDK {X : Cx} {K : PySem.W.Frag} (e : X.K = K) (hu : X.A.units + 65 < cLine) : OpR X (compareOp .NotIn) (rNotInD K) := by subst e; exact op_notInD hu
/-- an instance's dict changed: its heap as a letter -/
@[elab_as_elim] theorem s_iw {H : Hp} {p : Addr} {o : HO} {P : Hp → Prop} (h : ∀ H', (∀ a u, a ≠ p → H a = some u → H' a = some u) → H' p = some o → P H') : P (upd H p o) :=
  h _ (fun a u n e => by rw [upd_ne n]; exact e) upd_same
/-- all but instances stands -/
def Ki (H H' : Hp) : Prop := ∀ a o, (∀ C dx fs, o ≠ .ins C dx fs) → H a = some o → H' a = some o
theorem ki_refl (H : Hp) : Ki H H := fun _ _ _ h => h
theorem Ki.tr {H H1 H2 : Hp} (a : Ki H H1) (b : Ki H1 H2) : Ki H H2 := fun x o i h => b x o i (a x o i h)
theorem Ex.ki {H H' : Hp} (e : Ex H H') : Ki H H' := fun a o _ h => e a o h
theorem ki_w {H H' : Hp} {x C dx : Addr} {fs : List (Str × V)} (hx : H x = some (.ins C dx fs)) (m : ∀ a u, a ≠ x → H a = some u → H' a = some u) : Ki H H' := fun a o i h => m a o (fun z => by rw [z, hx] at h; exact i _ _ _ (Option.some.inj h).symm) h
theorem Ki.kx {K : PySem.W.Frag} {H H' : Hp} (e : Ki H H') : Kx K H H' := fun p xs => by
  constructor
  · rintro ((h | ⟨o, h⟩) | h)
    · exact .inl (.inl (e _ _ (fun _ _ _ => by simp) h))
    · exact .inl (.inr ⟨o, e _ _ (fun _ _ _ => by simp) h⟩)
    · exact .inr h
  · rintro ((h | ⟨o, h⟩) | h)
    · exact .inl (.inl (e _ _ (fun _ _ _ => by simp) h))
    · exact .inl (.inr ⟨o, e _ _ (fun _ _ _ => by simp) h⟩)
    · exact .inr h
theorem pe_bmK {X : Cx} {K : PySem.W.Frag} {T id : String} {name : Str} {r : V → List V → Hp → VK → Prop} {o e : Expr} {es : List Expr} {apos cpos : Pos} {to : TE} {t : TA} (eK : X.K = K) (pa : PlainAttrs T) (slot : Slot T name id) (hty : typeOf (.builtin id) = pure (.type "method_descriptor")) (hm : MtR X id r) (ho : PE X o to) (ha : PA X (e :: es) t)
    (hbase : attributeBase o name X.env (eval o X.env) = eval o X.env := by rfl)
    (hfew : ((backTo cpos (starEach (e :: es) X.env)).all (fun x => !x.1) && (backToKw cpos (keywordEach [] X.env)).all (fun x => x.1.isSome)
      && decide ((e :: es).length + ([] : List Keyword).length + (if ([] : List Keyword).isEmpty then 0 else 1) < 30)) = true := by rfl)
    (hline : (apos.endLine == cpos.line) = true := by rfl) (hs : starEach (e :: es) X.env = (false, eval e X.env) :: starEach es X.env := by rfl) (hplain : (backTo cpos (starEach es X.env)).any (·.1) = false := by rfl) :
    PE X (.Call (.Attribute o name apos) (e :: es) [] cpos) (tBM K T r to t) := by
  subst eK
  exact pe_bm pa slot hty hm ho ha hbase hfew hline hs hplain
/-! ### own subscripts, len, in; makings with defaults; == of tuples that hold own instances -/
structure CalCd (P : Program) (w : World) (K : PySem.W.Frag) (mg : Str → Option Value) (base : Heap) (k : Nat) (x : Str) (C : Addr) (ps : List Str) (dvs : List V) (sp : Sp) : Prop where
  gl : mg x = some (.ref C)
  ex : ∃ (f : Addr) (fd : FuncData) (ds : List Value), FnG P w K mg base k f fd ps sp ∧ Mk K C f ∧ Binds K fd ps ds ∧ Vals dvs ds
def uMakeD (C : Addr) (sp : Sp) (dvs : List V) (E : L2.St → XK) (t : TA) : TE := fun σ H Q => t σ H fun vs H1 => ∀ x dx, H1 x = none → H1 dx = none → dx ≠ x → sp (.ref x :: (vs ++ dvs)) (upd (upd H1 dx (.own x)) x (.ins C dx [])) (fun v H2 => v = .non ∧ Q (.ref x) H2) (E σ)
/-- a[b] by an own __getitem__ -/
def uGetO (C : Addr) (sp : Sp) (E : L2.St → XK) (ta tb : TE) : TE := fun σ H Q => ta σ H fun x H1 => tb σ H1 fun y H2 => ∃ a dx fs, x = .ref a ∧ H2 a = some (.ins C dx fs) ∧ sp [x, y] H2 Q (E σ)
def rLenO (C : Addr) (sp : Sp) : List V → Hp → VK → Prop := fun xs H Q => ∃ a dx fs, xs = [.ref a] ∧ H a = some (.ins C dx fs) ∧ sp [.ref a] H (fun v H' => ∃ n : Int, v = .int n ∧ 0 ≤ n ∧ n < 2 ^ 62 ∧ Q (.int n) H') E0
def rInO (C : Addr) (sp : Sp) (neg : Bool) : R2 := fun x y H Q => ∃ a dx fs, y = .ref a ∧ H a = some (.ins C dx fs) ∧ sp [y, x] H (fun v H' => ∃ b, v = .bl b ∧ Q (.bl (neg.xor b)) H') E0
section
variable {X : Cx} {k : Nat} {C : Addr} {ps : List Str} {sp : Sp} {E : L2.St → XK} {x m : Str} {p pos apos : Pos} {e o a b : Expr} {es : List Expr} {t : TA} {ta tb : TE} {dvs : List V} {ds : List Value} {f : Addr} {fd : FuncData}
theorem run_calI {A : Around} {pins : List (Addr × Obj)} {σ : L2.St} {H : Hp} {s : Shared} {Q : VK} {E0 : XK} {us : List Value} {vs : List V} (hA : A.frames = X.A.frames) (F : FnG X.prog X.w X.K X.mg X.base k f fd ps sp) (hr : Rm k A) (hb : Binds X.K fd ps ds) (hd : Vals dvs ds)
    (hx : PassesAt (L2.CX X.prog X.w) X σ E0) (I : Inv X pins σ H s) (r : Vals vs us) (h : sp (vs ++ dvs) H Q E0) : wpAny (model X.prog X.w) A (call (.ref f) us) (EP X pins σ Q) X.xe s := by
  have rr : Vals (vs ++ dvs) (us ++ ds) := r.append hd
  have ll : (us ++ ds).length = ps.length := rr.length.symm.trans (F.len _ _ _ _ h)
  have e0 : Env0 X.prog X.w X.K X.mg X.base A X.stack s H := by
    have e := I.env0
    exact ⟨by rw [hA]; exact e.frames, e.mod, e.bs, e.bsz, e.funs, e.frf, e.hok, e.bare⟩
  refine wpAny_call (codeAny_mono (F.run A X.stack s H ⟨us, []⟩ (us ++ ds) (vs ++ dvs) Q E0 hr.r hr.g e0 (hb s us I.kIn ll) rr h) fun q s' hq => ?_)
  match q, hq with
  | .error er, hq => exact hx pins H s er s' I hq
  | .ok (.ret u), hq => exact I.after hq
  | .ok .next, hq => exact hq.elim
  | .ok .brk, hq => exact hq.elim
  | .ok .cont, hq => exact hq.elim
theorem Rm.in1 {A : Around} (h : Rm (k + 1) A) : Rm k A.in1 := ⟨h.r.in1, h.g⟩
theorem run_mkGd {pins : List (Addr × Obj)} {σ : L2.St} {H : Hp} {s : Shared} {Q : VK} {us : List Value} {vs : List V} (M : Mk X.K C f) (F : FnG X.prog X.w X.K X.mg X.base k f fd ps sp) (hr : Rm (k + 1) X.A) (hb : Binds X.K fd ps ds) (hd : Vals dvs ds)
    (hx : PassesAt (L2.CX X.prog X.w) X σ (E σ)) (I : Inv X pins σ H s) (r : Vals vs us)
    (h : ∀ x dx, H x = none → H dx = none → dx ≠ x → sp (.ref x :: (vs ++ dvs)) (upd (upd H dx (.own x)) x (.ins C dx [])) (fun v H2 => v = .non ∧ Q (.ref x) H2) (E σ)) :
    wpAny (model X.prog X.w) X.A (call (.ref C) us) (EP X pins σ Q) X.xe s := by
  have hq := h (s.heap.objs.size + 1) s.heap.objs.size (I.hok.fresh (Nat.le_succ _)) (I.hok.fresh (Nat.le_refl _)) (Nat.ne_of_lt (Nat.lt_succ_self _))
  have I2 := Inv.made (C := C) I
  have r2 : Vals (V.ref (s.heap.objs.size + 1) :: (vs ++ dvs)) (Value.ref (s.heap.objs.size + 1) :: (us ++ ds)) := .cons rfl (r.append hd)
  have hl : (Value.ref (s.heap.objs.size + 1) :: us ++ ds).length = ps.length := by
    have e := r2.length
    rw [F.len _ _ _ _ hq] at e
    exact e.symm
  have hb2 := hb _ (Value.ref (s.heap.objs.size + 1) :: us) I2.kIn hl
  refine wpAny_call (make_map (f := f) I.kIn M.makes M.init (beq_iff_eq.mp M.fn) (codeAny_mono (F.run _ X.stack _ _ ⟨Value.ref (s.heap.objs.size + 1) :: us, []⟩ (Value.ref (s.heap.objs.size + 1) :: (us ++ ds)) _ _ (E σ) (hr.r.make C us [])
    (by have g := hr.g; first | exact g | (simpa [Around.under] using g)) (I2.env0.make C us []) hb2 r2 hq) fun r s' hq' => ?_))
  cases r with
  | error e => exact hx pins _ _ e s' I2 hq'
  | ok fl =>
    cases fl with
    | ret u =>
      obtain ⟨v, H', I3, rv, ev, q3⟩ := I2.after hq'
      subst ev
      exact ⟨rv, ⟨V.ref (s.heap.objs.size + 1), H', I3, rfl, q3⟩⟩
    | next => exact False.elim hq'
    | brk => exact False.elim hq'
    | cont => exact False.elim hq'
theorem pe_mkGd (c : CalCd X.prog X.w X.K X.mg X.base k x C ps dvs sp) (hr : Rm (k + 1) X.A) (hx : ∀ σ, PassesAt (L2.CX X.prog X.w) X σ (E σ)) (ha : PA X (e :: es) t) (hg : Gl X x := by rfl) (hdb : (x == ("__debug__" : Str)) = false := by decide)
    (he : starEach (e :: es) X.env = (false, eval e X.env) :: starEach es X.env := by rfl) (hpl : (backTo pos (starEach es X.env)).any (·.1) = false := by rfl) : PE X (.Call (.Name x p) (e :: es) [] pos) (uMakeD C sp dvs E t) := by
  obtain ⟨gl, f, fd, ds, F, M, hb, hd⟩ := c
  refine ⟨fun pins s σ H Q I h => ?_⟩
  refine wpAny_Call_Name_kw (ld_glob I hg gl ?_ hdb)
  refine PySem.W.callWith_K (h₀ := X.base) I.ok.mod.kin M.kp (thn (ha.run pos pins s σ H _ I h) fun us s1 ⟨vs, H1, I1, r, q⟩ => ⟨I1.kIn, ?_⟩) he hpl
  exact run_mkGd M F hr hb hd (hx σ) I1 r q
theorem pe_getO (ha : PE X a ta) (hb : PE X b tb) (c : CalM X.prog X.w X.K X.mg X.base k C "__getitem__" ps sp) (fi : ∀ f, Meth X.K C "__getitem__" f → PySem.W.fnIn X.K f = true) (hr : Rm (k + 1) X.A) (hx : ∀ σ, PassesAt (L2.CX X.prog X.w) X σ (E σ))
    (hs : ∀ v i, subscripted b true v i = runValue (.builtin "lifetime.subscript" ⟨[v, i], []⟩) := by intro _ _; with_unfolding_all rfl) : PE X (.Subscript a b pos) (uGetO C sp E ta tb) := by
  obtain ⟨cl, f, fd, F, hm, hbd⟩ := c
  refine ⟨fun pins s σ H Q I h => ?_⟩
  refine Subscript_ (binT ha hb I h fun v u s2 x y H2 I2 rx ry ⟨ad, dx, fs, ex, ea, q⟩ => ?_)
  subst ex
  cases (show v = Value.ref ad from rx)
  obtain ⟨mA, J, _⟩ := ins_get I2.hok ea
  obtain ⟨od, J, _⟩ := J.look
  obtain ⟨mm, hF⟩ := I2.fr
  exact PySem.W.sub_K hF I2.ok.mod.kin J hm.at_ (fi f hm) hm.fn (run_calI (us := [.ref ad, u]) (vs := [.ref ad, y]) rfl F hr.in1 hbd .nil (hx σ) I2 (.cons rfl (.cons ry .nil)) q) (hs _ _)
theorem call_lenO (c : CalM X.prog X.w X.K X.mg X.base k C "__len__" ps sp) (hr : Rm (k + 1) X.A) : CallR X (.builtin "len") (rLenO C sp) := by
  obtain ⟨cl, f, fd, F, hm, hbd⟩ := c
  intro pins s σ H xs us Q I r ⟨ad, dx, fs, ex, ea, q⟩
  subst ex
  cases r with
  | cons r rr =>
    cases rr
    cases r
    obtain ⟨mA, J, _⟩ := ins_get I.hok ea
    obtain ⟨od, J, _⟩ := J.look
    obtain ⟨mm, hF⟩ := I.fr
    refine PySem.W.len_K hF I.ok.mod.kin J hm.at_ hm.fn ?_
    refine wpAny_mono (run_calI (us := [.ref ad]) (vs := [.ref ad]) (E0 := E0) rfl F hr.in1 hbd .nil (paN σ) I (.cons rfl .nil) q) (fun w s' z => ?_) fun _ _ x => x
    obtain ⟨v, H', I', rv, n, rfl, h0, h1, q⟩ := z
    obtain ⟨t, rfl⟩ := rv
    exact ⟨⟨h0, by omega⟩, ⟨.int n, H', I'.tok _, ⟨_, rfl⟩, q⟩⟩
theorem op_inO (c : CalM X.prog X.w X.K X.mg X.base k C "__contains__" ps sp) (hr : Rm k X.A) : OpR X (compareOp .In) (rInO C sp false) := by
  obtain ⟨cl, f, fd, F, hm, hbd⟩ := c
  intro pins s σ H x y v u Q I rx ry ⟨ad, dx, fs, ex, ea, q⟩
  subst ex
  cases (show u = Value.ref ad from ry)
  obtain ⟨mA, J, _⟩ := ins_get I.hok ea
  obtain ⟨od, J, _⟩ := J.look
  obtain ⟨mm, hF⟩ := I.fr
  refine PySem.W.in_K hF I.ok.mod.kin J hm.at_ hm.fn ?_
  refine wpAny_mono (run_calI (us := [.ref ad, v]) (vs := [.ref ad, x]) (E0 := E0) rfl F hr hbd .nil (paN σ) I (.cons rfl (.cons rx .nil)) q) (fun w s' z => ?_) fun _ _ x => x
  obtain ⟨v2, H', I', rv, b, rfl, q⟩ := z
  cases (show w = Value.bool b from rv)
  exact wpAny_truthy_bool ⟨.bl b, H', I', rfl, by simpa using q⟩
theorem op_notInO (c : CalM X.prog X.w X.K X.mg X.base k C "__contains__" ps sp) (hr : Rm k X.A) : OpR X (compareOp .NotIn) (rInO C sp true) := by
  obtain ⟨cl, f, fd, F, hm, hbd⟩ := c
  intro pins s σ H x y v u Q I rx ry ⟨ad, dx, fs, ex, ea, q⟩
  subst ex
  cases (show u = Value.ref ad from ry)
  obtain ⟨mA, J, _⟩ := ins_get I.hok ea
  obtain ⟨od, J, _⟩ := J.look
  obtain ⟨mm, hF⟩ := I.fr
  refine PySem.W.notIn_K hF I.ok.mod.kin J hm.at_ hm.fn ?_
  refine wpAny_mono (run_calI (us := [.ref ad, v]) (vs := [.ref ad, x]) (E0 := E0) rfl F hr hbd .nil (paN σ) I (.cons rfl (.cons rx .nil)) q) (fun w s' z => ?_) fun _ _ x => x
  obtain ⟨v2, H', I', rv, b, rfl, q⟩ := z
  cases (show w = Value.bool b from rv)
  exact wpAny_truthy_bool ⟨.bl (!b), H', I', rfl, by simpa using q⟩
end
/-- len of a dict with tuples as keys -/
def rLenD : List V → Hp → VK → Prop := fun xs H Q => ∃ a kvs, xs = [.ref a] ∧ Rd H a (.dT kvs) ∧ Q (.int (kvs.length : Nat)) H
theorem call_lenT2 {X : Cx} : CallR X (.builtin "len") rLenD := by
  intro pins s σ H xs us Q I r ⟨a, kvs, ex, e, q⟩
  subst ex
  cases r with
  | cons r rr =>
    cases rr
    cases r
    obtain ⟨z, y, xs, rel, o, es, ep, h1, h2, h3, h4, h5⟩ := (show ObjOk X.prog X.w H s.heap a (.dT kvs) from e.ok I.hok)
    have hl : es.size = kvs.length := by
      have e1 : es.toList.length = xs.length := by rw [h4, List.length_map]
      have e2 := Paired.length rel
      rw [← Array.length_toList]
      omega
    have hz := sizeLine_eq
    refine PyProof.Rows.call_len_slot (n := (kvs.length : Nat)) (T := "dict") (id := "dict.__len__") ⟨o, h1, h2.1⟩ PySem.F.slot_dict_len (fun Q' hq => ?_) (by omega) (by omega) ⟨.int (kvs.length : Nat), H, ?_, ⟨_, rfl⟩, q⟩
    · refine call_len_raw y (es := es) (ep := ep) ⟨o, h1, h2, h3⟩ ?_
      rw [hl]
      exact hq
    · exact (I.tok _).tok _
/-! == of tuples, where no repr is running -/
structure SubG (X : Cx) (n : Nat) (A : Around) : Prop where
  r : Rm n A
  fr : A.frames = X.A.frames
theorem SubG.in1 {X : Cx} {n : Nat} {A : Around} (s : SubG X (n + 1) A) : SubG X n A.in1 := ⟨s.r.in1, s.fr⟩
theorem SubG.mono {X : Cx} {n m : Nat} {A : Around} (s : SubG X n A) (h : m ≤ n) : SubG X m A := ⟨s.r.mono h, s.fr⟩
def EqGG (X : Cx) (n : Nat) (D : Eqv) : Prop :=
  ∀ (A : Around) (pins : List (Addr × Obj)) (s : Shared) (σ : L2.St) (H : Hp) (x y : V) (u v : Value), SubG X n A → Inv X pins σ H s → RelV x u → RelV y v → D x y H →
    wpAny (model X.prog X.w) A (eqBool u v) (fun r s' => r = true ∧ ∃ H', Inv X pins σ H' s' ∧ Ext H H') X.xe s
section
variable {X : Cx} {n k : Nat} {D : Eqv} {C : Addr} {R : V → V → Hp → Prop} {ps : List Str} {sp : Sp}
theorem turnGG (hD : Mon D) (h : EqGG X n D) {A : Around} (sb : SubG X (n + 1) A) {pins : List (Addr × Obj)} {σ : L2.St} {H : Hp} {xs ys : List V} {its its2 : List Value} (p : Prs D xs ys H) (r : Vals xs its) (r2 : Vals ys its2)
    (i : Nat) (h1 : i < its.toArray.size) (h2 : i < its2.toArray.size) (s' : Shared) (l : LoopI X pins σ H s') :
    wpAny (model X.prog X.w) A.in1 (eqBool its.toArray[i] its2.toArray[i]) (fun r s2 => r = true ∧ LoopI X pins σ H s2) X.xe s' := by
  obtain ⟨H1, I1, e1⟩ := l
  have g1 : its[i]? = some its.toArray[i] := by
    have h1' : i < its.length := by simpa using h1
    rw [List.getElem?_eq_getElem h1'] <;> simp
  have g2 : its2[i]? = some its2.toArray[i] := by
    have h2' : i < its2.length := by simpa using h2
    rw [List.getElem?_eq_getElem h2'] <;> simp
  have k1 : i < xs.length := by rw [r.length]; simpa using h1
  have k2 : i < ys.length := by rw [r2.length]; simpa using h2
  obtain ⟨u, hu, ru⟩ := r.get (List.getElem?_eq_getElem k1)
  obtain ⟨v, hv, rv⟩ := r2.get (List.getElem?_eq_getElem k2)
  rw [g1] at hu
  rw [g2] at hv
  rw [Option.some.inj hu, Option.some.inj hv]
  refine wpAny_mono (h A.in1 pins s' σ H1 _ _ u v sb.in1 I1 ru rv (hD _ _ _ _ e1 (p.2 i _ _ (List.getElem?_eq_getElem k1) (List.getElem?_eq_getElem k2)))) (fun r s2 q => ?_) fun _ _ x => x
  obtain ⟨hr, H2, I2, e2⟩ := q
  exact ⟨hr, H2, I2, e1.trans e2⟩
/-- two instances of C whose own == says True, for R -/
def DOwn (C : Addr) (R : V → V → Hp → Prop) : Eqv := fun x y H => (flatV x = true ∧ flatV y = true ∧ eqV x y = true) ∨ ∃ a b dx dy fs gs, x = .ref a ∧ y = .ref b ∧ H a = some (.ins C dx fs) ∧ H b = some (.ins C dy gs) ∧ R x y H
theorem mon_own (hR : ∀ x y H H', Ext H H' → R x y H → R x y H') : Mon (DOwn C R) := fun x y H H' e d => by
  rcases d with d | ⟨a, b, dx, dy, fs, gs, hx, hy, h1, h2, r⟩
  · exact .inl d
  · exact .inr ⟨a, b, dx, dy, fs, gs, hx, hy, e _ _ h1, e _ _ h2, hR x y H H' e r⟩
theorem eqGG_own (c : CalM X.prog X.w X.K X.mg X.base k C "__eq__" ps sp) (hsp : ∀ x y H, R x y H → sp [x, y] H (fun v H' => v = .bl true ∧ Ext H H') E0) : EqGG X k (DOwn C R) := by
  obtain ⟨cl, f, fd, F, hm, hbd⟩ := c
  intro A pins s σ H x y u v sb I rx ry d
  rcases d with ⟨fx, fy, e⟩ | ⟨a, b, dx, dy, fs, gs, rfl, rfl, ha, hb', hr⟩
  · have q := eqAt_V (A := A) (s := s) rx ry fx fy
    rw [e] at q
    exact q X.prog X.w X.xe _ ⟨rfl, H, I, Ext.rfl'⟩
  cases rx
  cases ry
  by_cases hab : a = b
  · subst hab
    exact SeqAt.EqAt.same (A := A) (s := s) (.ref a) X.prog X.w X.xe _ ⟨rfl, H, I, Ext.rfl'⟩
  obtain ⟨mA, J, _⟩ := ins_get I.hok ha
  obtain ⟨mB, J', _⟩ := ins_get I.hok hb'
  obtain ⟨od, J, _⟩ := J.look
  obtain ⟨od', J', _⟩ := J'.look
  obtain ⟨m, hF⟩ := I.fr
  refine GQ.eqBool_refG hab ?_
  refine PySem.W.cmp_K (op := .Eq) (tb := .ref C) sb.r.r.units0 hF I.ok.mod.kin J J'.type (by simp [PySem.W.notFirst]) hm.at_ hm.fn ?_
  refine wpAny_mono (run_calI (us := [.ref a, .ref b]) (vs := [.ref a, .ref b]) (E0 := E0) sb.fr F sb.r hbd .nil (paN σ) I (.cons rfl (.cons rfl .nil)) (hsp _ _ _ hr)) (fun w s' z => ?_) fun _ _ x => x
  obtain ⟨z', H', I', rz, rfl, ex⟩ := z
  cases (show w = Value.bool true from rz)
  first
  | exact ⟨true, rfl, rfl, H', I', ex⟩
  | exact SlX.cmpback (v := .bl true) rfl ⟨true, rfl, rfl, H', I', ex⟩
/-- (a, b, ..) == (c, d, ..): flat ones and instances of C -/
def rEqTO (K : PySem.W.Frag) (C : Addr) (R : V → V → Hp → Prop) : R2 := fun x y H Q => DTup K (DOwn C R) x y H ∧ ∀ H', Ext H H' → Q (.bl true) H'
theorem op_eqTO (c : CalM X.prog X.w X.K X.mg X.base k C "__eq__" ps sp) (hR : ∀ x y H H', Ext H H' → R x y H → R x y H') (hsp : ∀ x y H, R x y H → sp [x, y] H (fun v H' => v = .bl true ∧ Ext H H') E0) (hr : Rm (k + 1) X.A) : OpR X (compareOp .Eq) (rEqTO X.K C R) := by
  intro pins s σ H x y v u Q I rx ry ⟨⟨a, b, xs, ys, ex, ey, ha, hb, p⟩, q⟩
  subst ex ey
  cases (show v = Value.ref a from rx)
  cases (show u = Value.ref b from ry)
  show wpAny (model X.prog X.w) X.A (richCompare .Eq (.ref a) (.ref b)) (EP X pins σ Q) X.xe s
  obtain ⟨its, r, e, z⟩ := I.tuple ha
  obtain ⟨its2, r2, e2, z2⟩ := I.tuple hb
  have hsz : its.toArray.size = its2.toArray.size := by rw [List.size_toArray, List.size_toArray, ← r.length, ← r2.length]; exact p.1
  refine GQ.rc_tupG hsz hr.r.units0 (fun _ s' => LoopI X pins σ H s') e e2 (fun i h1 h2 s' l => turnGG (mon_own hR) (eqGG_own c hsp) (n := k) ⟨hr, rfl⟩ p r r2 i h1 h2 s' l) (fun s' l => ?_) ⟨H, I, Ext.rfl'⟩
  obtain ⟨H', I', ex⟩ := l
  exact ⟨.bl true, H', I', rfl, q H' ex⟩
end
section
variable {K : PySem.W.Frag} {σ : L2.St} {H : Hp} {Q : VK} {E : L2.St → XK} {C : Addr} {sp : Sp} {ta tb : TE} {t : TA} {dvs : List V}
theorem s_mkD (h : t σ H fun vs H1 => ∀ x dx, H1 x = none → H1 dx = none → dx ≠ x → sp (.ref x :: (vs ++ dvs)) (upd (upd H1 dx (.own x)) x (.ins C dx [])) (fun v H2 => v = .non ∧ Q (.ref x) H2) (E σ)) : uMakeD C sp dvs E t σ H Q := h
theorem s_getO (h : ta σ H fun x H1 => tb σ H1 fun y H2 => ∃ a dx fs, x = .ref a ∧ H2 a = some (.ins C dx fs) ∧ sp [x, y] H2 Q (E σ)) : uGetO C sp E ta tb σ H Q := h
theorem s_dputE {td ty tv : TE} {D : Ends} (h : tv σ H fun v H1 => td σ H1 fun x H2 => ty σ H2 fun y H3 => ∃ a H4, x = .ref a ∧ DPut H3 a y v H4 ∧ D.nx σ H4) : sDPut td ty tv D σ H := h
theorem s_gsub {to ti : TE} {ts : TSet} {v : V} {P : L2.St → Hp → Prop} (h : to σ H fun o H1 => ti σ H1 fun i H2 => ts o i v H2 fun H3 => P σ H3) : gSub to ti ts v σ H P := h
theorem s_setL {p : Addr} {xs : List V} {k : Int} {j : Nat} {v : V} {P : Hp → Prop} (hp : H p = some (.lst xs)) (hj : ixN xs.length k = some j) (q : P (upd H p (.lst (xs.set j v)))) : rSetL (.ref p) (.int k) v H P := ⟨p, xs, k, j, rfl, rfl, hp, hj, q⟩
end
end Uv

set_option Elab.async false
set_option linter.all false
set_option maxRecDepth 100000
set_option maxHeartbeats 4000000
namespace Cl
/-! ### closed tables: plain facts (no program in sight) -/
abbrev Mat := Nat → Nat → Int
/-- the worlds that a table lets be -/
def W (n : Nat) (f : Mat) (x : Nat → Int) : Prop := ∀ i j, i < n → j < n → x j - x i ≤ f i j
structure Closed (n : Nat) (f : Mat) : Prop where
  z : ∀ i, i < n → f i i = 0
  t : ∀ i j k, i < n → j < n → k < n → f i k ≤ f i j + f j k
theorem Closed.w {n : Nat} {f : Mat} (h : Closed n f) {i : Nat} (hi : i < n) : W n f (f i) := fun j k hj hk => by
  have := h.t i j k hi hj hk
  omega
theorem uniq {n : Nat} {f g : Mat} (hf : Closed n f) (hg : Closed n g) (h : ∀ x, W n f x ↔ W n g x) : ∀ i j, i < n → j < n → f i j = g i j := fun i j hi hj => by
  have a := (h _).mp (hf.w hi) i j hi hj
  have b := (h _).mpr (hg.w hi) i j hi hj
  have c := hf.z i hi
  have d := hg.z i hi
  omega
/-- one link more -/
def add (f : Mat) (a b : Nat) (l : Int) : Mat := fun i j => min (f i j) (f i a + l + f b j)
theorem add_w {n : Nat} {f : Mat} {a b : Nat} {l : Int} (hf : Closed n f) (ha : a < n) (hb : b < n) (x : Nat → Int) : W n (add f a b l) x ↔ W n f x ∧ x b - x a ≤ l := by
  constructor
  · intro h
    refine ⟨fun i j hi hj => Int.le_trans (h i j hi hj) (Int.min_le_left _ _), ?_⟩
    have := Int.le_trans (h a b ha hb) (Int.min_le_right _ _)
    rw [hf.z a ha, hf.z b hb] at this
    omega
  · intro ⟨h, hl⟩ i j hi hj
    have h1 := h i j hi hj
    have h2 := h i a hi ha
    have h3 := h b j hb hj
    show _ ≤ min _ _
    omega
theorem add_closed {n : Nat} {f : Mat} {a b : Nat} {l : Int} (hf : Closed n f) (ha : a < n) (hb : b < n) (hl : 0 ≤ l + f b a) : Closed n (add f a b l) := by
  refine ⟨fun i hi => ?_, fun i j k hi hj hk => ?_⟩
  · have h1 := hf.z i hi
    have h2 := hf.t b i a hb hi ha
    show min _ _ = 0
    omega
  · have t1 := hf.t i j k hi hj hk
    have t2 := hf.t i j a hi hj ha
    have t3 := hf.t b j k hb hj hk
    have t4 := hf.t b j a hb hj ha
    show min _ _ ≤ min _ _ + min _ _
    omega
theorem clash {n : Nat} {f : Mat} {a b : Nat} {l : Int} (ha : a < n) (hb : b < n) (hl : l + f b a < 0) {x : Nat → Int} (h : W n f x) : ¬ x b - x a ≤ l := fun q => by
  have := h b a hb ha
  omega
/-- the closing, middle by middle -/
def phase (f : Mat) (m : Nat) : Mat := fun i j => min (f i j) (f i m + f m j)
def fw (f : Mat) : Nat → Mat
  | 0 => f
  | m + 1 => phase (fw f m) m
theorem fw_le (f : Mat) (i j : Nat) : ∀ m, fw f m i j ≤ f i j
  | 0 => Int.le_refl _
  | m + 1 => Int.le_trans (Int.min_le_left _ _) (fw_le f i j m)
theorem fw_dec (f : Mat) (i j : Nat) {m : Nat} : ∀ {k : Nat}, m ≤ k → fw f k i j ≤ fw f m i j
  | 0, h => by rw [show m = 0 by omega]; exact Int.le_refl _
  | k + 1, h => by
    by_cases e : m = k + 1
    · subst e; exact Int.le_refl _
    · exact Int.le_trans (Int.min_le_left _ _) (fw_dec f i j (show m ≤ k by omega))
theorem fw_w {n : Nat} (f : Mat) (x : Nat → Int) : ∀ m, m ≤ n → (W n (fw f m) x ↔ W n f x)
  | 0, _ => Iff.rfl
  | m + 1, h => by
    rw [← fw_w f x m (by omega)]
    constructor
    · exact fun q i j hi hj => Int.le_trans (q i j hi hj) (Int.min_le_left _ _)
    · intro q i j hi hj
      have h1 := q i j hi hj
      have h2 := q i m hi (by omega)
      have h3 := q m j (by omega) hj
      show _ ≤ min _ _
      omega
theorem fw_closed {n : Nat} {f : Mat} (z : ∀ i, i < n → f i i = 0) (d : ∀ i, i < n → 0 ≤ fw f n i i) : Closed n (fw f n) := by
  have zz : ∀ m, m ≤ n → ∀ i, i < n → fw f m i i = 0 := fun m hm i hi => by
    have h1 := fw_le f i i m
    have h2 := fw_dec f i i hm
    have h3 := d i hi
    have h4 := z i hi
    omega
  have key : ∀ m, m ≤ n → ∀ k i j, k < m → i < n → j < n → fw f m i j ≤ fw f m i k + fw f m k j := by
    intro m
    induction m with
    | zero => intro _ k i j hk; omega
    | succ m ih =>
      intro hm k i j hk hi hj
      have hm' : m < n := by omega
      have zm := zz m (by omega) m hm'
      show min _ _ ≤ min _ _ + min _ _
      by_cases e : k = m
      · subst e
        omega
      · have hk' : k < m := by omega
        have hkn : k < n := by omega
        have I := ih (by omega)
        have a1 := I k i j hk' hi hj
        have a2 := I k i m hk' hi hm'
        have a3 := I k m j hk' hm' hj
        have a4 := I k m m hk' hm' hm'
        omega
  exact ⟨zz n (Nat.le_refl n), fun i j k hi hj hk => key n (Nat.le_refl n) j i k hj hi hk⟩
theorem fw_good {n : Nat} {f : Mat} (z : ∀ i, i < n → f i i = 0) {x : Nat → Int} (h : W n f x) : Closed n (fw f n) := fw_closed z fun i hi => by
  have := (fw_w f x n (Nat.le_refl n)).mpr h i i hi hi
  omega
theorem phase_congr {n : Nat} {f g : Mat} (h : ∀ i j, i < n → j < n → f i j = g i j) {m : Nat} (hm : m < n) : ∀ i j, i < n → j < n → phase f m i j = phase g m i j := fun i j hi hj => by
  unfold phase
  rw [h i j hi hj, h i m hi hm, h m j hm hj]
/-- a link stored -/
def put (f : Mat) (a b : Nat) (l : Int) : Mat := fun i j => if i = a ∧ j = b then min l (f a b) else f i j
theorem put_w {n : Nat} {f : Mat} {a b : Nat} {l : Int} (ha : a < n) (hb : b < n) (x : Nat → Int) : W n (put f a b l) x ↔ W n f x ∧ x b - x a ≤ l := by
  constructor
  · intro h
    refine ⟨fun i j hi hj => ?_, ?_⟩
    · have := h i j hi hj
      unfold put at this
      split at this
      · rename_i e
        rw [e.1, e.2] at this ⊢
        omega
      · exact this
    · have := h a b ha hb
      unfold put at this
      rw [if_pos ⟨rfl, rfl⟩] at this
      omega
  · intro ⟨h, hl⟩ i j hi hj
    unfold put
    split
    · rename_i e
      have := h i j hi hj
      rw [e.1, e.2] at this ⊢
      omega
    · exact h i j hi hj
theorem put_z {n : Nat} {f : Mat} {a b : Nat} {l : Int} (ne : a ≠ b) (z : ∀ i, i < n → f i i = 0) : ∀ i, i < n → put f a b l i i = 0 := fun i hi => by
  unfold put
  rw [if_neg fun e => ne (e.1.symm.trans e.2)]
  exact z i hi
theorem put_fw {n : Nat} {f : Mat} {a b : Nat} {l : Int} (hf : Closed n f) (ha : a < n) (hb : b < n) (ne : a ≠ b) (hl : 0 ≤ l + f b a) : ∀ i j, i < n → j < n → fw (put f a b l) n i j = add f a b l i j := by
  have c := add_closed hf ha hb hl
  have w : W n (put f a b l) (add f a b l a) := (put_w ha hb _).mpr ((add_w hf ha hb _).mp (c.w ha))
  refine uniq (fw_good (put_z ne hf.z) w) c fun x => ?_
  rw [fw_w _ x n (Nat.le_refl n), put_w ha hb, add_w hf ha hb]
/-- links, one behind the other -/
abbrev Link := Nat × Nat × Int
def Ok (n : Nat) (L : List Link) : Prop := ∀ k ∈ L, k.1 < n ∧ k.2.1 < n ∧ k.1 ≠ k.2.1
def WL (L : List Link) (x : Nat → Int) : Prop := ∀ k ∈ L, x k.2.1 - x k.1 ≤ k.2.2
def puts (f : Mat) : List Link → Option Mat
  | [] => some f
  | k :: L => if k.2.2 + f k.2.1 k.1 < 0 then none else puts (add f k.1 k.2.1 k.2.2) L
def allin (f : Mat) (L : List Link) : Mat := L.foldl (fun f k => put f k.1 k.2.1 k.2.2) f
theorem puts_some {n : Nat} : ∀ {L : List Link} {f g : Mat}, Closed n f → Ok n L → puts f L = some g → Closed n g ∧ ∀ x, W n g x ↔ W n f x ∧ WL L x
  | [], f, g, hf, _, h => by
    cases h
    exact ⟨hf, fun x => ⟨fun q => ⟨q, fun k hk => by cases hk⟩, fun q => q.1⟩⟩
  | k :: L, f, g, hf, ok, h => by
    obtain ⟨o1, o2, o3⟩ := ok k List.mem_cons_self
    unfold puts at h
    by_cases c : k.2.2 + f k.2.1 k.1 < 0
    · rw [if_pos c] at h; cases h
    · rw [if_neg c] at h
      obtain ⟨hg, hw⟩ := puts_some (add_closed hf o1 o2 (by omega)) (fun q hq => ok q (List.mem_cons_of_mem _ hq)) h
      refine ⟨hg, fun x => ?_⟩
      rw [hw, add_w hf o1 o2]
      constructor
      · rintro ⟨⟨a, b⟩, c⟩
        exact ⟨a, fun q hq => by rcases List.mem_cons.mp hq with rfl | hq; exact b; exact c q hq⟩
      · rintro ⟨a, b⟩
        exact ⟨⟨a, b k List.mem_cons_self⟩, fun q hq => b q (List.mem_cons_of_mem _ hq)⟩
theorem puts_none {n : Nat} : ∀ {L : List Link} {f : Mat}, Closed n f → Ok n L → puts f L = none → ∀ x, W n f x → ¬ WL L x
  | [], f, hf, _, h => by cases h
  | k :: L, f, hf, ok, h => by
    obtain ⟨o1, o2, o3⟩ := ok k List.mem_cons_self
    intro x hx hl
    unfold puts at h
    by_cases c : k.2.2 + f k.2.1 k.1 < 0
    · exact clash o1 o2 c hx (hl k List.mem_cons_self)
    · rw [if_neg c] at h
      exact puts_none (add_closed hf o1 o2 (by omega)) (fun q hq => ok q (List.mem_cons_of_mem _ hq)) h x ((add_w hf o1 o2 x).mpr ⟨hx, hl k List.mem_cons_self⟩) fun q hq => hl q (List.mem_cons_of_mem _ hq)
theorem allin_w {n : Nat} : ∀ {L : List Link} {f : Mat}, Ok n L → ∀ x, W n (allin f L) x ↔ W n f x ∧ WL L x
  | [], f, _, x => ⟨fun q => ⟨q, fun k hk => by cases hk⟩, fun q => q.1⟩
  | k :: L, f, ok, x => by
    obtain ⟨o1, o2, o3⟩ := ok k List.mem_cons_self
    show W n (allin (put f k.1 k.2.1 k.2.2) L) x ↔ _
    rw [allin_w (fun q hq => ok q (List.mem_cons_of_mem _ hq)), put_w o1 o2]
    constructor
    · rintro ⟨⟨a, b⟩, c⟩
      exact ⟨a, fun q hq => by rcases List.mem_cons.mp hq with rfl | hq; exact b; exact c q hq⟩
    · rintro ⟨a, b⟩
      exact ⟨⟨a, b k List.mem_cons_self⟩, fun q hq => b q (List.mem_cons_of_mem _ hq)⟩
theorem allin_z {n : Nat} : ∀ {L : List Link} {f : Mat}, Ok n L → (∀ i, i < n → f i i = 0) → ∀ i, i < n → allin f L i i = 0
  | [], f, _, z => z
  | k :: L, f, ok, z => allin_z (f := put f k.1 k.2.1 k.2.2) (fun q hq => ok q (List.mem_cons_of_mem _ hq)) (put_z (ok k List.mem_cons_self).2.2 z)
/-- the whole: one by one, or all in at once -/
theorem all_some {n : Nat} {f : Mat} {L L' : List Link} (n0 : 0 < n) (hf : Closed n f) (ok : Ok n L) (p : L'.Perm L) (d : ∀ i, i < n → 0 ≤ fw (allin f L) n i i) : ∃ g, puts f L' = some g ∧ Closed n g ∧ ∀ i j, i < n → j < n → g i j = fw (allin f L) n i j := by
  have ok' : Ok n L' := fun k hk => ok k (p.mem_iff.mp hk)
  have wl : ∀ x, WL L' x ↔ WL L x := fun x => ⟨fun q k hk => q k (p.mem_iff.mpr hk), fun q k hk => q k (p.mem_iff.mp hk)⟩
  have c := fw_closed (allin_z ok hf.z) d
  have hw : ∀ x, W n (fw (allin f L) n) x ↔ W n f x ∧ WL L x := fun x => by rw [fw_w _ x n (Nat.le_refl n), allin_w ok]
  cases h : puts f L' with
  | none =>
    have q := (hw _).mp (c.w n0)
    exact absurd ((wl _).mpr q.2) (puts_none hf ok' h _ q.1)
  | some g =>
    obtain ⟨hg, hgw⟩ := puts_some hf ok' h
    exact ⟨g, rfl, hg, uniq hg c fun x => by rw [hgw, hw, wl]⟩
theorem all_none {n : Nat} {f : Mat} {L L' : List Link} (n0 : 0 < n) (hf : Closed n f) (ok : Ok n L) (p : L'.Perm L) (d : ∃ i, i < n ∧ fw (allin f L) n i i < 0) : puts f L' = none := by
  have ok' : Ok n L' := fun k hk => ok k (p.mem_iff.mp hk)
  cases h : puts f L' with
  | none => rfl
  | some g =>
    obtain ⟨hg, hgw⟩ := puts_some hf ok' h
    obtain ⟨i, hi, q⟩ := d
    have w := (hgw _).mp (hg.w n0)
    have w2 : W n (fw (allin f L) n) (g 0) := (fw_w _ _ n (Nat.le_refl n)).mpr ((allin_w ok _).mpr ⟨w.1, fun k hk => w.2 k (p.mem_iff.mpr hk)⟩)
    have := w2 i i hi hi
    omega
end Cl

set_option Elab.async false
set_option linter.all false
set_option maxRecDepth 100000
set_option maxHeartbeats 4000000
/-! list(o), where o's own __iter__ hands out an iterator of a tuple or of a dict's keys, and o has an own __len__ -/
namespace Uv
open PySem PySem.Spec L2
open PyProof.Rows hiding St
/-- the context with one address more that may turn, in other surroundings -/
abbrev Cx.plus (X : Cx) (it : Addr) (A : Around) : Cx := { X with ex := it :: X.ex, A := A, calm := true }
section
variable {X : Cx} {pins : List (Addr × Obj)} {σ : L2.St} {H H' : Hp} {s s' : Shared} {it : Addr} {u : HO} {A : Around}
theorem un_plus {fs ex : List Addr} {h h' : Heap} (u : Un fs ex H H' h h') : Un fs (it :: ex) H H' h h' :=
  have f : ∀ b, b ∉ it :: ex → b ∉ ex := fun b n m => n (List.mem_cons_of_mem _ m)
  ⟨fun b o a c d e => u.keep b o a c d (f b e), fun b o a c d e => u.slot b o a c d (f b e), fun b o a c e => u.free b o a c (f b e), fun b o a e => u.there b o a (f b e), u.tups, u.frzs, u.tbls⟩
theorem un_minus {fs ex : List Addr} {h h' : Heap} (u : Un fs (it :: ex) H H' h h') (n : it ∈ ex ∨ h.get? it = none) : Un fs ex H H' h h' :=
  have f : ∀ b o, h.get? b = some o → b ∉ ex → b ∉ it :: ex := fun b o e nb m => by
    rcases List.mem_cons.mp m with z | z
    · rcases n with n | n
      · exact nb (z ▸ n)
      · rw [← z, e] at n; cases n
    · exact nb z
  ⟨fun b o a c d e => u.keep b o a c d (f b o a e), fun b o a c d e => u.slot b o a c d (f b o a e), fun b o a c e => u.free b o a c (f b o a e), fun b o a e => u.there b o a (f b o a e), u.tups, u.frzs, u.tbls⟩
theorem inv_plus (I : Inv X pins σ H s) (h : H it = some u) (hf : A.frames = X.A.frames) (hh : A.handled = none) : Inv (Cx.plus X it A) pins σ H s := by
  have ok := I.ok
  have off : it ≠ X.env.locals := fun z => by rw [z, I.free] at h; cases h
  have offC : ∀ x c, X.env.cells.lookup x = some c → c ≠ it := fun x c e z => by
    have q := I.freeC x c e
    rw [z, h] at q; cases q
  have offB : ∀ o, X.base.get? it ≠ some o := fun o e => by
    have q := (I.bs it o e).2
    rw [h] at q; cases q
  have offF : it ∉ X.fs := fun z => by
    obtain ⟨_, o, ho, _⟩ := ok.funs.mem z
    have hn := ok.frf it z
    have := I.base.free it o ho hn (fun e => ok.exfs it e z)
    rw [h] at this; cases this
  refine ⟨{ ok with hd := fun _ => hh, frames := hf.trans ok.frames, exf := fun b hb => ?_, noex := fun b o e m => ?_, exfs := fun b hb => ?_ }, I.os, I.bare, un_plus I.base, I.loc, I.cell, I.free, I.freeC, I.pin, I.hok, I.len⟩
  · rcases List.mem_cons.mp hb with z | z
    · subst z; exact ⟨off, offC⟩
    · exact ok.exf b z
  · rcases List.mem_cons.mp m with z | z
    · subst z; exact offB o e
    · exact ok.noex b o e z
  · rcases List.mem_cons.mp hb with z | z
    · subst z; exact offF
    · exact ok.exfs b z
theorem inv_minus (ok : X.Ok) (I : Inv (Cx.plus X it A) pins σ H s) (n : it ∈ X.ex ∨ X.s_0.heap.get? it = none) : Inv X pins σ H s :=
  ⟨ok, I.os, I.bare, un_minus I.base n, I.loc, I.cell, I.free, I.freeC, I.pin, I.hok, I.len⟩
/-- a tracked thing is forgotten -/
def offH (H : Hp) (a : Addr) : Hp := fun b => if b = a then none else H b
theorem offH_same {H : Hp} {a : Addr} : offH H a a = none := if_pos rfl
theorem offH_ne {H : Hp} {a b : Addr} (h : b ≠ a) : offH H a b = H b := if_neg h
theorem inv_off {φ : Heap → Prop} (I : Inv X pins σ H s) (h : H it = some (.ext φ)) : Inv X pins σ (offH H it) s := by
  have ne : ∀ b u, H b = some u → (∀ ψ, u ≠ .ext ψ) → b ≠ it := fun b u e n z => by rw [z, h] at e; exact n φ (Option.some.inj e).symm
  have st : ∀ b u, H b = some u → (∀ ψ, u ≠ .ext ψ) → offH H it b = some u := fun b u e n => (offH_ne (ne b u e n)).trans e
  have nn : ∀ b, H b = none → offH H it b = none := fun b e => by
    by_cases z : b = it
    · rw [z]; exact offH_same
    · rw [offH_ne z]; exact e
  have hk : HOk X.prog X.w (offH H it) s.heap := fun b u e => by
    by_cases z : b = it
    · rw [z, offH_same] at e; cases e
    · rw [offH_ne z] at e
      exact (I.hok b u e).stay (fun _ _ _ y => y) (fun c y => st c _ y fun _ r => (nomatch r)) fun c xs y => st c _ y fun _ r => (nomatch r)
  exact I.un (t' := s.toks) ⟨fun _ _ e _ _ _ => e, fun _ o e _ _ _ => ⟨o.slots, e⟩, fun b _ _ z _ => nn b z, fun _ o e _ => ⟨o, e⟩, fun b xs z => st b _ z fun _ r => (nomatch r), fun b o x z => st b _ z fun _ r => (nomatch r),
    fun b ps z => ⟨#[], by rw [st b _ z fun _ r => (nomatch r)]; simp⟩⟩ hk
theorem fp_plus (I : Inv X pins σ H s) {φ : Heap → Prop} (h : H it = some (.ext φ)) : FpOk (Cx.plus X it A) pins (offH H it) it := by
  refine ⟨offH_same, fun z => ?_, fun z => ?_, .inl List.mem_cons_self, fun x c e z => ?_, fun p hp z => ?_⟩
  · rw [z, I.free] at h; cases h
  · obtain ⟨_, o, ho, _⟩ := I.ok.funs.mem z
    have := I.base.free it o ho (I.ok.frf it z) (fun e => I.ok.exfs it e z)
    rw [h] at this; cases this
  · have q := I.freeC x c e
    rw [z, h] at q; cases q
  · have q := (I.pin p hp).2.1
    rw [z, h] at q; cases q
end
/-- an iterator of the tuple at p, or of the keys of the locked dict, not begun -/
def ItT (p it : Addr) : HO := .ext fun h => h.IsTupleIter it p 0
def ItKs (d : Addr) (od : Obj) (n : Nat) (it : Addr) : HO := .ext fun h => ∃ es ep, od.data = .dict es ep ∧ h.IsKeyIter it d 0 n ep
section
variable {X : Cx} {pins : List (Addr × Obj)} {σ : L2.St} {H : Hp} {s : Shared} {A1 : Around} {q it p d : Addr} {od : Obj} {Rs : Result → Shared → Prop}
/-- one item more in the list at q -/
theorem push_q {X : Cx} {acc : List V} {v : V} {u : Value} {s : Shared} {H : Hp} {Q : Unit → Shared → Prop} {E : Value → Shared → Prop} {M : Model} {A : Around} (I : Inv X pins σ H s) (hq : H q = some (.lst acc)) (rv : RelV v u) (hlen : acc.length < sizeLine)
    (h : ∀ s', Heap.SameBut q s.heap s'.heap → Inv X pins σ (upd H q (.lst (acc ++ [v]))) s' → Q () s') : wpAny M A (updateSeq q (·.push u)) Q E s := by
  obtain ⟨z, its, k, r2, hl, e⟩ := I.lstM hq
  refine wpAny_updateSeq e rfl (h _ (Heap.SameBut.update ..) (I.lset (its' := its ++ [u]) (t' := s.toks) hq e (by simp) (r2.append (.cons rv .nil)) (by rw [List.length_append, List.length_singleton]; omega))) (by rw [List.size_toArray]; omega) (by show (its.toArray.push u).size ≤ sizeLine + 1; rw [Array.size_push, List.size_toArray]; omega)
/-- the loop that fills the list at q, by what one step does -/
theorem fill_loop (S : Nat → List V → Hp → Prop) (T : Nat → Heap → Prop) (n : Nat) (keep : ∀ i h h', Heap.SameBut q h h' → T i h → T i h')
    (step : ∀ i acc H s, i < n → S i acc H → T i s.heap → Inv (Cx.plus X it A1.in1) pins σ H s → wpAny (model X.prog X.w) A1.in1 (pyNext (.ref it)) (fun r s' => ∃ u v H', r = some u ∧ RelV v u ∧ Inv (Cx.plus X it A1.in1) pins σ H' s' ∧ T (i + 1) s'.heap ∧ H' q = some (.lst acc) ∧ acc.length < sizeLine ∧ S (i + 1) (acc ++ [v]) (upd H' q (.lst (acc ++ [v])))) (fun e s' => Rs (.error e) s') s)
    (stop : ∀ acc H s, S n acc H → T n s.heap → Inv (Cx.plus X it A1.in1) pins σ H s → wpAny (model X.prog X.w) A1.in1 (pyNext (.ref it)) (fun r s' => r = none ∧ Rs (.ok (.ret .none)) s') (fun e s' => Rs (.error e) s') s) :
    ∀ (k i : Nat) (acc : List V) (H : Hp) (s : Shared), n - i = k → i ≤ n → S i acc H → T i s.heap → Inv (Cx.plus X it A1.in1) pins σ H s → codeAny (model X.prog X.w) A1 (.builtin "list.extend.loop" ⟨[.ref q, .ref it, .none], []⟩) Rs s := by
  intro k
  induction k with
  | zero =>
    intro i acc H s hk hi hS hT I
    have e : i = n := by omega
    subst e
    refine codeAny_builtin PySem.F.entry_extend_loop ?_
    rw [Around.under_plainId PySem.F.plain_extend_loop _]
    show wpAny _ A1.in1 (pyNext (.ref it) >>= _) _ _ s
    refine wpAny_bind (wpAny_mono (stop acc H s hS hT I) (fun r s' hr => ?_) fun _ _ z => z)
    obtain ⟨rfl, hr⟩ := hr
    exact wpAny_pure hr
  | succ k ih =>
    intro i acc H s hk hi hS hT I
    refine codeAny_builtin PySem.F.entry_extend_loop ?_
    rw [Around.under_plainId PySem.F.plain_extend_loop _]
    show wpAny _ A1.in1 (pyNext (.ref it) >>= _) _ _ s
    refine wpAny_bind (wpAny_mono (step i acc H s (by omega) hS hT I) (fun r s' hr => ?_) fun _ _ z => z)
    obtain ⟨u, v, H', rfl, rv, I', hT', hq, hlen, hS'⟩ := hr
    show wpAny _ A1.in1 (updateSeq q (·.push u) >>= _) _ _ _
    exact wpAny_bind (push_q I' hq rv hlen fun s2 sb I2 => wpAny_pure ⟨plainId_quiet PySem.F.plain_extend_loop _, ih (i + 1) _ _ s2 (by omega) (by omega) hS' (keep _ _ _ sb hT') I2⟩)
theorem step_tup {us : List V} {i : Nat} {v : V} {E : Value → Shared → Prop} {Q : Option Value → Shared → Prop} (I : Inv (Cx.plus X it A1) pins σ H s) (st : s.heap.IsTupleIter it p i) (fp : FpOk (Cx.plus X it A1) pins H it) (hp : SqT X.K H p us) (hv : us[i]? = some v)
    (h : ∀ u h', RelV v u → Inv (Cx.plus X it A1) pins σ H { s with heap := h' } → h'.IsTupleIter it p (i + 1) → Q (some u) { s with heap := h' }) : wpAny (model X.prog X.w) A1 (pyNext (.ref it)) Q E s := by
  obtain ⟨its, rv, z, _⟩ := I.tuple hp
  obtain ⟨u, hu, ru⟩ := rv.get hv
  obtain ⟨f0, f1, f2, f3, f4, f5⟩ := fp
  exact wpAny_pyNext_tuple_item st (show s.heap.IsTuple p its.toArray from z) (x := u) (by simpa using hu) fun h' st' sb => h u h' ru (I.turned (t' := s.toks) (fun b o hb e => (sb.2 b hb).trans e) f0 f1 f3 f4 f5) st'
theorem stop_tup {us : List V} {i : Nat} {E : Value → Shared → Prop} {Q : Option Value → Shared → Prop} (I : Inv (Cx.plus X it A1) pins σ H s) (st : s.heap.IsTupleIter it p i) (fp : FpOk (Cx.plus X it A1) pins H it) (hp : SqT X.K H p us) (hv : us.length ≤ i)
    (h : ∀ h', Inv (Cx.plus X it A1) pins σ H { s with heap := h' } → Q none { s with heap := h' }) : wpAny (model X.prog X.w) A1 (pyNext (.ref it)) Q E s := by
  obtain ⟨its, rv, z, _⟩ := I.tuple hp
  have hl := rv.length
  obtain ⟨f0, f1, f2, f3, f4, f5⟩ := fp
  exact wpAny_pyNext_tuple_end (I.ok.hd rfl) st (show s.heap.IsTuple p its.toArray from z) (by simp; omega) fun h' eb => h h' (I.turned (t' := s.toks) (fun b o hb e => eb b o hb e) f0 f1 f3 f4 f5)
theorem step_keys {kvs : List (List Key × V)} {es : Array DictEntry} {ep i : Nat} {E : Value → Shared → Prop} {Q : Option Value → Shared → Prop} (I : Inv (Cx.plus X it A1) pins σ H s) (hod : od.data = .dict es ep) (st : s.heap.IsKeyIter it d i kvs.length ep) (fp : FpOk (Cx.plus X it A1) pins H it)
    (hd : H d = some (.frz od (.dT kvs))) (hi : i < kvs.length)
    (h : ∀ (k : List Key) (w : V) (a : Addr) (u : Value) h', kvs[i]? = some (k, w) → RelV (.ref a) u → H a = some (.tup (k.map kV)) → Inv (Cx.plus X it A1) pins σ H { s with heap := h' } → h'.IsKeyIter it d (i + 1) kvs.length ep → Q (some u) { s with heap := h' }) : wpAny (model X.prog X.w) A1 (pyNext (.ref it)) Q E s := by
  obtain ⟨f0, f1, f2, f3, f4, f5⟩ := fp
  obtain ⟨hs, hgd, hx, es', ep', hdt, hsz, ent⟩ := I.frzT hd
  obtain ⟨rfl, rfl⟩ := dict_ep hod hdt
  obtain ⟨⟨k, w⟩, hkv⟩ : ∃ p, kvs[i]? = some p := ⟨kvs[i], List.getElem?_eq_getElem hi⟩
  obtain ⟨en, q, hen, hkey, hq⟩ := ent i k w hkv
  exact next_key_item st hgd hdt hsz hen fun h' st' sb => h k w q en.key h' hkv hkey hq (I.turned (t' := s.toks) (fun b ob hb e => (sb.2 b hb).trans e) f0 f1 f3 f4 f5) st'
theorem stop_keys {kvs : List (List Key × V)} {es : Array DictEntry} {ep i : Nat} {E : Value → Shared → Prop} {Q : Option Value → Shared → Prop} (I : Inv (Cx.plus X it A1) pins σ H s) (hod : od.data = .dict es ep) (st : s.heap.IsKeyIter it d i kvs.length ep) (fp : FpOk (Cx.plus X it A1) pins H it)
    (hd : H d = some (.frz od (.dT kvs))) (hi : kvs.length ≤ i)
    (h : ∀ h', Inv (Cx.plus X it A1) pins σ H { s with heap := h' } → Q none { s with heap := h' }) : wpAny (model X.prog X.w) A1 (pyNext (.ref it)) Q E s := by
  obtain ⟨f0, f1, f2, f3, f4, f5⟩ := fp
  obtain ⟨hs, hgd, hx, es', ep', hdt, hsz, ent⟩ := I.frzT hd
  obtain ⟨rfl, rfl⟩ := dict_ep hod hdt
  exact next_key_end (I.ok.hd rfl) st hgd hdt hsz hi fun h' eb => h h' (I.turned (t' := s.toks) (fun b ob hb e => eb b ob hb e) f0 f1 f3 f4 f5)
end
section
variable {X : Cx} {pins : List (Addr × Obj)} {σ : L2.St} {H : Hp} {s : Shared} {A1 : Around} {q it p d a C fi fl dx : Addr} {fs : List (Str × V)} {od : Obj} {Rs : Result → Shared → Prop} {fdI fdL : FuncData} {psI psL : List Str} {spI spL : Sp} {k : Nat}
/-- an own def runs; what is tracked behind it and was not ahead of it is new -/
theorem run_calU {A : Around} {Q : VK} {us : List Value} {vs : List V} (hA : A.frames = X.A.frames) (F : FnG X.prog X.w X.K X.mg X.base k fi fdI psI spI) (hr : Rm k A) (hb : Binds X.K fdI psI [])
    (I : Inv X pins σ H s) (r : Vals vs us) (h : spI vs H Q E0) :
    wpAny (model X.prog X.w) A (call (.ref fi) us) (fun u s' => ∃ v H', Inv X pins σ H' s' ∧ RelV v u ∧ Q v H' ∧ ∀ b, H b = none → H' b ≠ none → s.heap.get? b = none) (fun _ _ => False) s := by
  have ll : us.length = psI.length := r.length.symm.trans (F.len _ _ _ _ h)
  have e0 : Env0 X.prog X.w X.K X.mg X.base A X.stack s H := by
    have e := I.env0
    exact ⟨by rw [hA]; exact e.frames, e.mod, e.bs, e.bsz, e.funs, e.frf, e.hok, e.bare⟩
  refine wpAny_call (codeAny_mono (F.run A X.stack s H ⟨us, []⟩ us vs Q E0 hr.r hr.g e0 (by
    have := hb s us I.kIn (by simpa using ll)
    simpa using this) r h) fun y s' hq => ?_)
  match y, hq with
  | .error er, hq =>
    obtain ⟨a, B, H', cls, d, rfl, fl, hok, ub, na, os, ag, hE⟩ := hq
    exact hE
  | .ok (.ret u), hq =>
    obtain ⟨v, H', os, bare, un, hok, rv, qq⟩ := hq
    obtain ⟨v2, H2, I2, r2, rfl, rfl⟩ := I.after (Q := fun v2 H2 => v2 = v ∧ H2 = H') ⟨v, H', os, bare, un, hok, rv, rfl, rfl⟩
    refine ⟨v2, H2, I2, r2, qq, fun b h1 h2 => ?_⟩
    cases e : s.heap.get? b with
    | none => rfl
    | some o => exact absurd (un.free b o e h1 (by simp)) h2
  | .ok .next, hq => exact hq.elim
  | .ok .brk, hq => exact hq.elim
  | .ok .cont, hq => exact hq.elim
/-- the hint of the length, by an own __len__ -/
theorem own_hintL {Qv : VK} {Q : Bool → Shared → Prop} {E : Value → Shared → Prop} (hL : Meth X.K C "__len__" fl) (FL : FnG X.prog X.w X.K X.mg X.base k fl fdL psL spL) (bL : Binds X.K fdL psL []) (hA : A1.frames = X.A.frames) (hr : Rm (k + 1) A1)
    (I : Inv X pins σ H s) (ha : H a = some (.ins C dx fs))
    (h : spL [.ref a] H Qv E0) (hQ : ∀ v H', Qv v H' → ∃ m : Int, v = .int m ∧ 0 ≤ m ∧ m ≤ 16777216 ∧ ∀ (b : Bool) (s' : Shared), Inv X pins σ H' s' → Q b s') : wpAny (model X.prog X.w) A1 (Builtin.List.listLengthHint (.ref a)) Q E s := by
  obtain ⟨mA, J, _⟩ := ins_get I.hok ha
  obtain ⟨od, J, _⟩ := J.look
  obtain ⟨mm, hF⟩ := I.fr
  unfold Builtin.List.listLengthHint
  refine wpAny_bind (wpAny_bind (J.type.here ((PySem.W.looks_findIn I.kIn hL.at_).here ?_)))
  refine PySem.W.KFB.if_not rfl ?_
  refine PySem.W.KFB.if_so rfl ?_
  refine wpAny_bind (wpAny_rule ?_)
  refine wpAny_bind (wpAny_attempt ?_)
  refine wpAny_mono (PySem.W.len_K hF I.ok.mod.kin J hL.at_ hL.fn (Q := fun v s' => ∃ (m : Int) (t : Tok), v = .int m t ∧ 0 ≤ m ∧ m ≤ 16777216 ∧ ∀ b, Q b s') (wpAny_mono (run_calU (us := [.ref a]) (vs := [.ref a]) (A := A1.in1) (by first | exact hA | (simpa using hA)) FL hr.in1 bL I (.cons rfl .nil) h) (fun w s' z => ?_) fun e s' x => ?_)) (fun v s' z => ?_) fun e s' x => False.elim x
  · obtain ⟨v, H', I', rv, qv, _⟩ := z
    obtain ⟨m, rfl, m0, m1, k⟩ := hQ v H' qv
    obtain ⟨t, rfl⟩ := rv
    exact ⟨⟨m0, by omega⟩, m, _, rfl, m0, m1, fun b => k b _ (I'.tok _)⟩
  · exact False.elim x
  · obtain ⟨m, t, rfl, m0, m1, k⟩ := z
    refine wpAny_bind (m := asInt? (.int m t)) (wpAny_of_eq (a := some m) (by first | rfl | kernel_rfl) ?_)
    refine PySem.W.KFB.if_not (decide_eq_false ?_) (wpAny_pure (k _))
    rw [sizeLine_eq]
    omega
/-- at it stands what has a __next__ -/
def NextAt (it : Addr) (u : HO) : Prop := ∃ (φ : Heap → Prop) (n : String) (g : Value), u = .ext φ ∧ (∀ s : Shared, φ s.heap → s.TypeIs (.ref it) n) ∧ typeLookup (.type n) (Str.ofString "__next__") = pure (some g)
theorem next_t : NextAt it (ItT p it) := ⟨_, "tuple_iterator", _, rfl, fun s h => Heap.IsTupleIter.typeIs h, PySem.F.slot_tuple_iterator_next.lookup⟩
theorem next_k {n : Nat} : NextAt it (ItKs d od n it) := ⟨_, "dict_keyiterator", _, rfl, fun s h => by obtain ⟨es, ep, _, h⟩ := h; exact Heap.IsKeyIter.typeIs h, PySem.F.slot_dict_keyiterator_next.lookup⟩
theorem ext_own (mI : Meth X.K C "__iter__" fi) (FI : FnG X.prog X.w X.K X.mg X.base k fi fdI psI spI) (bI : Binds X.K fdI psI []) (mL : Meth X.K C "__len__" fl) (FL : FnG X.prog X.w X.K X.mg X.base k fl fdL psL spL) (bL : Binds X.K fdL psL [])
    (hA : A1.in1.frames = X.A.frames) (hr : Rm (k + 1) A1.in1) (I : Inv X pins σ H s) (ha : H a = some (.ins C dx fs)) (hq : H q = some (.lst []))
    {Qi : VK} (h : spI [.ref a] H Qi E0) (hI : ∀ v H1, Qi v H1 → ∃ it u, v = .ref it ∧ H it = none ∧ H1 it = some u ∧ NextAt it u ∧ H1 a = some (.ins C dx fs) ∧ ∃ Ql : VK, spL [.ref a] H1 Ql E0 ∧ ∀ n H2, Ql n H2 → ∃ m : Int, n = .int m ∧ 0 ≤ m ∧ m ≤ 16777216 ∧ H2 q = some (.lst []) ∧
      ∀ s', Inv X pins σ H2 s' → (it ∈ X.ex ∨ X.s_0.heap.get? it = none) → codeAny (model X.prog X.w) A1 (.builtin "list.extend.loop" ⟨[.ref q, .ref it, .none], []⟩) Rs s') :
    wpAny (model X.prog X.w) A1.in1 (Builtin.List.listExtendWith (.ref q) (.ref a) .none)
      (fun fin s' => match fin with | .done f => Rs (.ok f) s' | .again c' => c'.quiet = true ∧ codeAny (model X.prog X.w) A1 c' Rs s') (fun e s' => Rs (.error e) s') s := by
  have hne : q ≠ a := ne_of hq ha (fun z => nomatch z)
  obtain ⟨mA, J, _⟩ := ins_get I.hok ha
  obtain ⟨od, J, _⟩ := J.look
  obtain ⟨m0, hF⟩ := I.fr
  unfold Builtin.List.listExtendWith
  refine wpAny_bind (J.type.here ?_)
  have c1 : Builtin.List.listSameRef (.ref q) (.ref a) = false := by simp [Builtin.List.listSameRef, hne]
  have c2 : (Value.ref C == Value.type "list") = false := rfl
  have c3 : (Value.ref C == Value.type "tuple") = false := rfl
  simp only [c1, c2, c3, Bool.or_false, Bool.false_eq_true, if_false]
  refine wpAny_bind (PySem.W.owit_iter hF I.ok.mod.kin J mI.at_ mI.fn ?_)
  refine wpAny_mono (run_calU (us := [.ref a]) (vs := [.ref a]) hA FI (hr.mono (Nat.le_succ k)) bI I (.cons rfl .nil) h) (fun w s' z => ?_) fun e s' x => x.elim
  obtain ⟨v, H1, I1, rv, qi, new⟩ := z
  obtain ⟨it, u, rfl, h0, hu, ⟨φ, n, g, rfl, tn, lk⟩, ha1, Ql, hl, hQl⟩ := hI v H1 qi
  cases rv
  have hn : it ∈ X.ex ∨ X.s_0.heap.get? it = none := by
    have z := new it h0 (by rw [hu]; simp)
    by_cases e : it ∈ X.ex
    · exact .inl e
    · refine .inr ?_
      cases y : X.s_0.heap.get? it with
      | none => rfl
      | some o =>
        obtain ⟨o', ho'⟩ := I.base.there it o y e
        rw [z] at ho'; cases ho'
  refine wpAny_specialOf (tn _ ((I1.hok it _ hu).1)) lk ?_
  refine wpAny_bind (wpAny_holding (wpAny_mono (own_hintL (A1 := A1.in1) (Q := fun b s2 => ∃ H2, Inv X pins σ H2 s2 ∧ H2 q = some (.lst []) ∧ ∀ s', Inv X pins σ H2 s' → (it ∈ X.ex ∨ X.s_0.heap.get? it = none) → codeAny (model X.prog X.w) A1 (.builtin "list.extend.loop" ⟨[.ref q, .ref it, .none], []⟩) Rs s') mL FL bL hA hr I1 ha1 hl fun v H2 ql => by obtain ⟨m, e, m0, m1, hq2, lp⟩ := hQl v H2 ql; exact ⟨m, e, m0, m1, fun b s2 I2 => ⟨H2, I2, hq2, lp⟩⟩) (fun b s2 z => ?_) fun _ _ z => z))
  obtain ⟨H2, I2, hq2, lp⟩ := z
  refine wpAny_ite_split (fun _ => ?_) (fun _ => wpAny_pure ⟨plainId_quiet PySem.F.plain_extend_loop _, lp _ I2 hn⟩)
  obtain ⟨z, its, k3, r3, hl3, e3⟩ := I2.lstM hq2
  cases r3
  refine wpAny_bind (wpAny_rule ?_)
  refine wpAny_bind ?_
  show wpAny _ _ (updateSeq q (·.push .none) >>= fun _ => updateSeq q (·.pop)) _ _ _
  refine wpAny_bind (wpAny_updateSeq e3 rfl ?_)
  have J2 := I2.lset (f := (·.push Value.none)) (its' := [Value.none]) (ys := [.non]) (t' := s2.toks) hq2 e3 (by simp) (.cons rfl .nil) (by rw [List.length_singleton, sizeLine_eq]; decide)
  obtain ⟨z4, its4, k4, r4, hl4, e4⟩ := J2.lstM upd_same
  obtain ⟨u4, rfl, ru4⟩ := r4.one
  refine wpAny_updateSeq e4 rfl ?_ (by show 1 ≤ sizeLine; rw [sizeLine_eq]; decide) (by show 0 ≤ sizeLine + 1; exact Nat.zero_le _)
  have J3 := J2.lset (f := (·.pop)) (its := [u4]) (its' := []) (ys := []) (t' := s2.toks) upd_same e4 (by rfl) .nil (Nat.zero_le _)
  rw [upd_upd] at J3
  have hH : upd H2 q (.lst []) = H2 := funext fun b => by
    by_cases hb : b = q
    · rw [hb, upd_same, hq2]
    · rw [upd_ne hb]
  rw [hH] at J3
  exact wpAny_pure ⟨plainId_quiet PySem.F.plain_extend_loop _, lp _ J3 hn⟩
theorem sqt_off {K : PySem.W.Frag} {xs : List V} {φ : Heap → Prop} (h : SqT K H p xs) (e : H it = some (.ext φ)) : SqT K (offH H it) p xs := by
  rcases h with (h | ⟨o, h⟩) | h
  · exact .inl (.inl ((offH_ne fun z => by rw [z, e] at h; cases h).trans h))
  · exact .inl (.inr ⟨o, (offH_ne fun z => by rw [z, e] at h; cases h).trans h⟩)
  · exact .inr h
theorem sqt_q {K : PySem.W.Frag} {xs acc ys : List V} (h : SqT K H p xs) (e : H q = some (.lst acc)) : SqT K (upd H q (.lst ys)) p xs := by
  rcases h with (h | ⟨o, h⟩) | h
  · exact .inl (.inl ((upd_ne fun z => by rw [z, e] at h; cases h).trans h))
  · exact .inl (.inr ⟨o, (upd_ne fun z => by rw [z, e] at h; cases h).trans h⟩)
  · exact .inr h
theorem loop_tup {us : List V} (I : Inv X pins σ H s) (hc : X.calm = true) (hA : A1.in1.frames = X.A.frames) (hh : A1.in1.handled = none) (hn : it ∈ X.ex ∨ X.s_0.heap.get? it = none) (hi : H it = some (ItT p it)) (hq : H q = some (.lst [])) (hp : SqT X.K H p us) (ul : us.length ≤ 16777216)
    (h : ∀ s', Inv X pins σ (upd (offH H it) q (.lst us)) s' → Rs (.ok (.ret .none)) s') : codeAny (model X.prog X.w) A1 (.builtin "list.extend.loop" ⟨[.ref q, .ref it, .none], []⟩) Rs s := by
  have ne : it ≠ q := fun z => by rw [z, hq] at hi; cases hi
  have hq0 : offH H it q = some (.lst []) := (offH_ne (Ne.symm ne)).trans hq
  have hp0 := sqt_off hp hi
  have fp0 : FpOk (Cx.plus X it A1.in1) pins (offH H it) it := fp_plus I hi
  have I0 : Inv (Cx.plus X it A1.in1) pins σ (offH H it) s := inv_off (inv_plus I hi hA hh) hi
  have st0 : s.heap.IsTupleIter it p 0 := (I.hok it _ hi).1
  have fp : ∀ ys, FpOk (Cx.plus X it A1.in1) pins (upd (offH H it) q (.lst ys)) it := fun ys => ⟨by rw [upd_ne ne]; exact fp0.1, fp0.2⟩
  have hu : upd (offH H it) q (.lst []) = offH H it := funext fun b => by
    by_cases hb : b = q
    · rw [hb, upd_same, hq0]
    · rw [upd_ne hb]
  refine fill_loop (S := fun i acc H' => acc = us.take i ∧ H' = upd (offH H it) q (.lst acc)) (T := fun i h => h.IsTupleIter it p i) us.length (fun i h h' sb st => st.at fun o e => (sb.2 it ne).trans e) ?_ ?_ us.length 0 [] (offH H it) s rfl (Nat.zero_le _) ⟨rfl, hu.symm⟩ st0 I0
  · rintro i acc H' s1 hi' ⟨rfl, rfl⟩ hT I1
    refine step_tup I1 hT (fp _) (sqt_q hp0 hq0) (List.getElem?_eq_getElem hi') fun u h' ru I2 st' => ⟨u, _, _, rfl, ru, I2, st', upd_same, ?_, ?_, ?_⟩
    · rw [List.length_take, sizeLine_eq]; omega
    · rw [List.take_add_one, List.getElem?_eq_getElem hi']; rfl
    · rw [upd_upd]
  · rintro acc H' s1 ⟨rfl, rfl⟩ hT I1
    refine stop_tup I1 hT (fp _) (sqt_q hp0 hq0) (Nat.le_refl _) fun h' I2 => ⟨rfl, ?_⟩
    rw [List.take_length] at I2
    exact h _ (inv_minus I.ok I2 hn)
theorem loop_keys {kvs : List (List Key × V)} {n : Nat} (I : Inv X pins σ H s) (hA : A1.in1.frames = X.A.frames) (hh : A1.in1.handled = none) (hn : it ∈ X.ex ∨ X.s_0.heap.get? it = none) (hi : H it = some (ItKs d od n it)) (en : n = kvs.length) (hq : H q = some (.lst [])) (hd : H d = some (.frz od (.dT kvs))) (ul : kvs.length ≤ 16777216)
    (hf : ∀ o' u', X.H_0 d ≠ some (.frz o' u'))
    (h : ∀ (vs : List V) s', vs.length = kvs.length → (∀ (i : Nat) (k : List Key) (w : V), kvs[i]? = some (k, w) → ∃ b, vs[i]? = some (.ref b) ∧ b ≠ q ∧ H b = some (.tup (k.map kV))) → Inv X pins σ (upd (upd (offH H it) q (.lst vs)) d (.dT kvs)) s' → Rs (.ok (.ret .none)) s') :
    codeAny (model X.prog X.w) A1 (.builtin "list.extend.loop" ⟨[.ref q, .ref it, .none], []⟩) Rs s := by
  subst en
  have ne : it ≠ q := fun z => by rw [z, hq] at hi; cases hi
  have ned : d ≠ it := fun z => by rw [z, hi] at hd; cases hd
  have neq : d ≠ q := fun z => by rw [z, hq] at hd; cases hd
  have hq0 : offH H it q = some (.lst []) := (offH_ne (Ne.symm ne)).trans hq
  have hd0 : offH H it d = some (.frz od (.dT kvs)) := (offH_ne ned).trans hd
  have fp0 : FpOk (Cx.plus X it A1.in1) pins (offH H it) it := fp_plus I hi
  have I0 : Inv (Cx.plus X it A1.in1) pins σ (offH H it) s := inv_off (inv_plus I hi hA hh) hi
  obtain ⟨es, ep, hod, st0⟩ := (I.hok it _ hi).1
  have fp : ∀ ys, FpOk (Cx.plus X it A1.in1) pins (upd (offH H it) q (.lst ys)) it := fun ys => ⟨by rw [upd_ne ne]; exact fp0.1, fp0.2⟩
  have hu : upd (offH H it) q (.lst []) = offH H it := funext fun b => by
    by_cases hb : b = q
    · rw [hb, upd_same, hq0]
    · rw [upd_ne hb]
  refine fill_loop (S := fun i acc H' => acc.length = i ∧ (∀ j k w, j < i → kvs[j]? = some (k, w) → ∃ b, acc[j]? = some (.ref b) ∧ b ≠ q ∧ H b = some (.tup (k.map kV))) ∧ H' = upd (offH H it) q (.lst acc)) (T := fun i h => h.IsKeyIter it d i kvs.length ep) kvs.length (fun i h h' sb st => st.at fun o e => (sb.2 it ne).trans e) ?_ ?_ kvs.length 0 [] (offH H it) s rfl (Nat.zero_le _) ⟨rfl, fun j k w hj => absurd hj (Nat.not_lt_zero _), hu.symm⟩ st0 I0
  · rintro i acc H' s1 hi' ⟨al, ha, rfl⟩ hT I1
    refine step_keys I1 hod hT (fp _) (by rw [upd_ne neq]; exact hd0) hi' fun k w b u h' hk ru hb I2 st' => ⟨u, _, _, rfl, ru, I2, st', upd_same, ?_, ?_, ?_, ?_⟩
    · rw [al, sizeLine_eq]; omega
    · rw [List.length_append, al]; rfl
    · have nbq : b ≠ q := fun z => by rw [z, upd_same] at hb; cases hb
      rw [upd_ne nbq] at hb
      have nbi : b ≠ it := fun z => by rw [z, offH_same] at hb; cases hb
      rw [offH_ne nbi] at hb
      intro j k2 w2 hj hkj
      by_cases e : j = i
      · subst e
        rw [hk] at hkj
        cases hkj
        exact ⟨b, by rw [List.getElem?_append_right (by omega), al, Nat.sub_self]; rfl, nbq, hb⟩
      · obtain ⟨c, h1, h2, h3⟩ := ha j k2 w2 (by omega) hkj
        exact ⟨c, by rw [List.getElem?_append_left (by omega)]; exact h1, h2, h3⟩
    · rw [upd_upd]
  · rintro acc H' s1 ⟨al, ha, rfl⟩ hT I1
    refine stop_keys I1 hod hT (fp _) (by rw [upd_ne neq]; exact hd0) (Nat.le_refl _) fun h' I2 => ⟨rfl, ?_⟩
    exact h acc _ al (fun i k w hk => ha i k w (List.getElem?_eq_some_iff.mp hk).1 hk) ((inv_minus I.ok I2 hn).unlock (by rw [upd_ne neq]; exact hd0) hf)
/-- list(o), o's __iter__: an iterator of a tuple -/
def rListT (K : PySem.W.Frag) (C : Addr) (spI spL : Sp) : List V → Hp → VK → Prop := fun xs H Q => ∃ a dx fs, xs = [.ref a] ∧ H a = some (.ins C dx fs) ∧ ∀ q, H q = none →
  spI [.ref a] (upd H q (.lst [])) (fun v H1 => ∃ it p us, v = .ref it ∧ H it = none ∧ it ≠ q ∧ SqT K H p us ∧ us.length ≤ 16777216 ∧ H1 = upd (upd H q (.lst [])) it (ItT p it) ∧
    spL [.ref a] H1 (fun n H2 => ∃ m : Int, n = .int m ∧ 0 ≤ m ∧ m ≤ 16777216 ∧ H2 = H1 ∧ Q (.ref q) (upd H q (.lst us))) E0) E0
/-- .. of a dict's keys, which are tuples -/
def rListK (C : Addr) (spI spL : Sp) : List V → Hp → VK → Prop := fun xs H Q => ∃ a dx fs d kvs, xs = [.ref a] ∧ H a = some (.ins C dx fs) ∧ H d = some (.dT kvs) ∧ kvs.length ≤ 16777216 ∧ ∀ q, H q = none →
  spI [.ref a] (upd H q (.lst [])) (fun v H1 => ∃ it od, v = .ref it ∧ H it = none ∧ it ≠ q ∧ H1 = upd (upd (upd H q (.lst [])) d (.frz od (.dT kvs))) it (ItKs d od kvs.length it) ∧
    spL [.ref a] H1 (fun n H2 => ∃ m : Int, n = .int m ∧ 0 ≤ m ∧ m ≤ 16777216 ∧ H2 = H1 ∧ ∀ vs : List V, vs.length = kvs.length → (∀ (i : Nat) (k : List Key) (w : V), kvs[i]? = some (k, w) → ∃ b, vs[i]? = some (.ref b) ∧ H b = some (.tup (k.map kV))) → Q (.ref q) (upd H q (.lst vs))) E0) E0
theorem call_list0 {Q : VK} {a : Addr} (I : Inv X pins σ H s) (ha : H a = some (.ins C dx fs))
    (h : ∀ q s1, H q = none → Inv X pins σ (upd H q (.lst [])) s1 → wpAny (model X.prog X.w) X.A.in1.in1 (Builtin.List.listExtendWith (.ref q) (.ref a) .none)
      (fun fin s' => match fin with | .done f => wants (fun r s₂ => r = .none ∧ EP X pins σ Q (.ref q) s₂) X.xe (.ok f) s' | .again c' => c'.quiet = true ∧ codeAny (model X.prog X.w) X.A.in1 c' (wants (fun r s₂ => r = .none ∧ EP X pins σ Q (.ref q) s₂) X.xe) s') (fun e s' => wants (fun r s₂ => r = .none ∧ EP X pins σ Q (.ref q) s₂) X.xe (.error e) s') s1) :
    wpAny (model X.prog X.w) X.A (call (.type "list") [.ref a]) (EP X pins σ Q) X.xe s := by
  refine callType_codes (Q₁ := fun obj s₁ => obj = .ref s.heap.objs.size ∧ s₁ = { s with heap := s.heap.push { cls := .type "list", data := .seq #[] } }) PySem.F.called_list (PySem.F.typeCall_list_1 _) PySem.F.entry_list_init
    (code_list_new _ ⟨rfl, rfl⟩) fun obj s₁ h₁ => ?_
  obtain ⟨rfl, rfl⟩ := h₁
  have hS : (s.heap.push { cls := .type "list", data := .seq #[] }).get? s.heap.objs.size = some { cls := .type "list", data := .seq #[] } := Heap.get?_push_size _ rfl
  refine ⟨⟨_, hS, rfl⟩, PySem.F.args_list_init_2 _ _, ?_⟩
  have fr : H s.heap.objs.size = none := I.hok.fresh (Nat.le_refl _)
  have I1 : Inv X pins σ (upd H s.heap.objs.size (.lst [])) { s with heap := s.heap.push { cls := .type "list", data := .seq #[] } } := I.lnew (its := []) (t' := s.toks) .nil (Nat.zero_le _)
  show wpAny _ _ (do let old ← Builtin.List.listItems (.ref s.heap.objs.size); Builtin.List.listUpdate (.ref s.heap.objs.size) (fun _ => #[]); letGo old.toList.reverse; Builtin.List.listExtendWith (.ref s.heap.objs.size) (.ref a) .none) _ _ _
  refine wpAny_bind ?_
  unfold Builtin.List.listItems
  refine wpAny_bind (wpAny_seqItems hS rfl (wpAny_pure ?_))
  show wpAny _ _ (updateSeq s.heap.objs.size (fun _ => #[]) >>= fun _ => letGo (#[] : Array Value).toList.reverse >>= fun _ => Builtin.List.listExtendWith (.ref s.heap.objs.size) (.ref a) .none) _ _ _
  refine wpAny_bind (wpAny_updateSeq hS rfl ?_)
  have I2 := I1.lset (f := fun _ => #[]) (its := []) (its' := []) (ys := []) (t' := s.toks) upd_same hS rfl .nil (Nat.zero_le _)
  rw [upd_upd] at I2
  refine wpAny_bind (wpAny_letGo ?_)
  exact h _ _ fr I2
theorem call_listT (cI : CalM X.prog X.w X.K X.mg X.base k C "__iter__" psI spI) (cL : CalM X.prog X.w X.K X.mg X.base k C "__len__" psL spL) (hc : X.calm = true) (hr : Rm (k + 3) X.A) : CallR X (.type "list") (rListT X.K C spI spL) := by
  obtain ⟨_, fi, fdI, FI, mI, bI⟩ := cI
  obtain ⟨_, fl, fdL, FL, mL, bL⟩ := cL
  intro pins s σ H xs us Q I rv ⟨a, dx, fs, ex, ha, hq⟩
  subst ex
  obtain ⟨u, rfl, ru⟩ := rv.one
  cases ru
  have hh : X.A.handled = none := I.ok.hd hc
  refine call_list0 I ha fun q s1 nq I2 => ?_
  have ha2 : upd H q (.lst []) a = some (.ins C dx fs) := (upd_ne (ne_of_none ha nq)).trans ha
  refine ext_own (A1 := X.A.in1) mI FI bI mL FL bL rfl hr.in1.in1 I2 ha2 upd_same (hq q nq) fun v H1 hv => ?_
  obtain ⟨it, p, us, rfl, hi, ni, hp, ul, rfl, hl⟩ := hv
  have nia : a ≠ it := fun z => by rw [z, hi] at ha; cases ha
  have hq1 : upd (upd H q (.lst [])) it (ItT p it) q = some (.lst []) := (upd_ne (Ne.symm ni)).trans upd_same
  refine ⟨it, _, rfl, (upd_ne ni).trans hi, upd_same, next_t, (upd_ne nia).trans ha2, _, hl, fun n H2 hn => ?_⟩
  obtain ⟨m, rfl, m0, m1, rfl, hQ⟩ := hn
  refine ⟨m, rfl, m0, m1, hq1, fun s' I3 nw => loop_tup I3 hc rfl hh nw upd_same hq1 (us := us) ?_ ul fun s2 I4 => ⟨rfl, .ref q, _, I4, rfl, ?_⟩⟩
  · have npi : ∀ xs, H p = some xs → p ≠ it := fun xs e z => by rw [z, hi] at e; cases e
    have npq : ∀ xs, H p = some xs → p ≠ q := fun xs e z => by rw [z, nq] at e; cases e
    rcases hp with (hp | ⟨o, hp⟩) | hp
    · exact .inl (.inl ((upd_ne (npi _ hp)).trans ((upd_ne (npq _ hp)).trans hp)))
    · exact .inl (.inr ⟨o, (upd_ne (npi _ hp)).trans ((upd_ne (npq _ hp)).trans hp)⟩)
    · exact .inr hp
  · have e : upd (offH (upd (upd H q (.lst [])) it (ItT p it)) it) q (.lst us) = upd H q (.lst us) := funext fun b => by
      by_cases hb : b = q
      · rw [hb, upd_same, upd_same]
      · rw [upd_ne hb, upd_ne hb]
        by_cases hbi : b = it
        · rw [hbi, offH_same, hi]
        · rw [offH_ne hbi, upd_ne hbi, upd_ne hb]
    rw [e]
    exact hQ
theorem call_listK (cI : CalM X.prog X.w X.K X.mg X.base k C "__iter__" psI spI) (cL : CalM X.prog X.w X.K X.mg X.base k C "__len__" psL spL) (hc : X.calm = true) (hr : Rm (k + 3) X.A) : CallR X (.type "list") (rListK C spI spL) := by
  obtain ⟨_, fi, fdI, FI, mI, bI⟩ := cI
  obtain ⟨_, fl, fdL, FL, mL, bL⟩ := cL
  intro pins s σ H xs us Q I rv ⟨a, dx, fs, d, kvs, ex, ha, hd, ul, hq⟩
  subst ex
  obtain ⟨u, rfl, ru⟩ := rv.one
  cases ru
  have hh : X.A.handled = none := I.ok.hd hc
  have nf := I.nofrz hd True.intro
  refine call_list0 I ha fun q s1 nq I2 => ?_
  have ha2 : upd H q (.lst []) a = some (.ins C dx fs) := (upd_ne (ne_of_none ha nq)).trans ha
  refine ext_own (A1 := X.A.in1) mI FI bI mL FL bL rfl hr.in1.in1 I2 ha2 upd_same (hq q nq) fun v H1 hv => ?_
  obtain ⟨it, od, rfl, hi, ni, rfl, hl⟩ := hv
  have nia : a ≠ it := fun z => by rw [z, hi] at ha; cases ha
  have nad : a ≠ d := fun z => by rw [z, hd] at ha; cases ha
  have ndi : d ≠ it := fun z => by rw [z, hi] at hd; cases hd
  have ndq : d ≠ q := fun z => by rw [z, nq] at hd; cases hd
  have hq1 : upd (upd (upd H q (.lst [])) d (.frz od (.dT kvs))) it (ItKs d od kvs.length it) q = some (.lst []) := (upd_ne (Ne.symm ni)).trans ((upd_ne (Ne.symm ndq)).trans upd_same)
  refine ⟨it, _, rfl, (upd_ne ni).trans hi, upd_same, next_k, (upd_ne nia).trans ((upd_ne nad).trans ha2), _, hl, fun n H2 hn => ?_⟩
  obtain ⟨m, rfl, m0, m1, rfl, hQ⟩ := hn
  refine ⟨m, rfl, m0, m1, hq1, fun s' I3 nw => loop_keys I3 rfl hh nw upd_same rfl hq1 ((upd_ne ndi).trans upd_same) ul nf fun vs s2 vl hvs I4 => ⟨rfl, .ref q, _, I4, rfl, ?_⟩⟩
  have e : upd (upd (offH (upd (upd (upd H q (.lst [])) d (.frz od (.dT kvs))) it (ItKs d od kvs.length it)) it) q (.lst vs)) d (.dT kvs) = upd H q (.lst vs) := funext fun b => by
    by_cases hbd : b = d
    · rw [hbd, upd_same, upd_ne ndq, hd]
    · rw [upd_ne hbd]
      by_cases hb : b = q
      · rw [hb, upd_same, upd_same]
      · rw [upd_ne hb, upd_ne hb]
        by_cases hbi : b = it
        · rw [hbi, offH_same, hi]
        · rw [offH_ne hbi, upd_ne hbi, upd_ne hbd, upd_ne hb]
  rw [e]
  refine hQ vs vl fun i k w hk => ?_
  obtain ⟨b, h1, h2, h3⟩ := hvs i k w hk
  have nbi : b ≠ it := fun z => by rw [z, upd_same] at h3; cases h3
  rw [upd_ne nbi] at h3
  have nbd : b ≠ d := fun z => by rw [z, upd_same] at h3; cases h3
  rw [upd_ne nbd, upd_ne h2] at h3
  exact ⟨b, h1, h3⟩
/-- iter(x): an iterator of a tuple -/
def rIterT (K : PySem.W.Frag) : List V → Hp → VK → Prop := fun xs H Q => ∃ p us, xs = [.ref p] ∧ SqT K H p us ∧ ∀ it, H it = none → Q (.ref it) (upd H it (ItT p it))
/-- .. of a dict's keys: the dict is locked -/
def rIterK : List V → Hp → VK → Prop := fun xs H Q => ∃ d kvs, xs = [.ref d] ∧ H d = some (.dT kvs) ∧ ∀ it od, H it = none → Q (.ref it) (upd (upd H d (.frz od (.dT kvs))) it (ItKs d od kvs.length it))
theorem call_iterX {E : Value → Shared → Prop} {Q : Value → Shared → Prop} {P : Program} {w : World} {A : Around} {v : Value} (h : wpAny (model P w) A.in1 (pyIter v) Q E s) : wpAny (model P w) A (call (.builtin "iter") [v]) Q E s := by
  refine Calls.call_function_entry (by decide +kernel) (by decide +kernel) PySem.W.kdk_entry_iter (PySem.W.kdk_args_iter _) ?_
  unfold Builtin.«iter»
  refine wpAny_bind (m := someArgs "iter" 1 2 _) (wpAny_of_eq (a := [v]) (by first | rfl | kernel_rfl!) ?_)
  show wpAny _ _ (pyIter v >>= _) _ _ _
  exact wpAny_bind (wpAny_mono h (fun r s' q => wpAny_pure ⟨_, rfl, q⟩) fun _ _ z => z)
theorem call_iterT {X : Cx} : CallR X (.builtin "iter") (rIterT X.K) := by
  intro pins s σ H xs us Q I r ⟨p, vs, ex, hp, q⟩
  subst ex
  obtain ⟨u, rfl, ru⟩ := r.one
  cases ru
  obtain ⟨its, rv, z, _⟩ := I.tuple hp
  refine call_iterX (wpAny_pyIter_tuple z ?_)
  have st : (s.heap.push { cls := .type "tuple_iterator", data := .fields #[.ref p, .int 0 0] }).IsTupleIter s.heap.objs.size p 0 := ⟨_, Heap.get?_push_size _ rfl, rfl, rfl⟩
  exact ⟨.ref s.heap.objs.size, _, I.laid (o := ItT p s.heap.objs.size) (t' := s.toks) (fun b u e => Heap.get?_push_of_some _ e) (Nat.le_refl _) (show ObjOk _ _ _ _ _ (HO.ext _) from ⟨st, ⟨_, Heap.get?_push_size _ rfl⟩, fun h1 h2 z k => z.at fun o e => k _ e⟩), rfl, q _ (I.hok.fresh (Nat.le_refl _))⟩
theorem call_iterK {X : Cx} : CallR X (.builtin "iter") rIterK := by
  intro pins s σ H xs us Q I r ⟨d, kvs, ex, hd, q⟩
  subst ex
  obtain ⟨u, rfl, ru⟩ := r.one
  cases ru
  obtain ⟨od, I2⟩ := I.lock hd True.intro
  obtain ⟨hs, hgd, hx, es, ep, hdt, hsz, ent⟩ := I2.frzT upd_same
  refine call_iterX (iter_keys hs hgd hx hdt ?_)
  have st : (s.heap.push { cls := .type "dict_keyiterator", data := .fields #[.ref d, .int 0 0, .int es.size 0, .int ep 0] }).IsKeyIter s.heap.objs.size d 0 kvs.length ep := ⟨_, Heap.get?_push_size _ rfl, rfl, by rw [hsz]; rfl⟩
  exact ⟨.ref s.heap.objs.size, _, I2.laid (o := ItKs d od kvs.length s.heap.objs.size) (t' := s.toks) (fun b u e => Heap.get?_push_of_some _ e) (Nat.le_refl _) (show ObjOk _ _ _ _ _ (HO.ext _) from ⟨⟨es, ep, hdt, st⟩, ⟨_, Heap.get?_push_size _ rfl⟩, fun h1 h2 z k => by
    obtain ⟨es, ep, hdt, st⟩ := z
    exact ⟨es, ep, hdt, st.at fun o e => k _ e⟩⟩), rfl, q _ od (I.hok.fresh (Nat.le_refl _))⟩
end
theorem s_itT {K : PySem.W.Frag} {H : Hp} {Q : VK} {p : Addr} {us : List V} (hp : SqT K H p us) (q : ∀ it, H it = none → Q (.ref it) (upd H it (ItT p it))) : rIterT K [.ref p] H Q := ⟨p, us, rfl, hp, q⟩
theorem s_itK {H : Hp} {Q : VK} {d : Addr} {kvs : List (List Key × V)} (hd : H d = some (.dT kvs)) (q : ∀ it od, H it = none → Q (.ref it) (upd (upd H d (.frz od (.dT kvs))) it (ItKs d od kvs.length it))) : rIterK [.ref d] H Q := ⟨d, kvs, rfl, hd, q⟩
theorem b_iter : bootBuiltins "iter" = some (.builtin "iter") := by first | rfl | decide +kernel
end Uv

set_option Elab.async false
set_option linter.all false
set_option maxRecDepth 100000
set_option maxHeartbeats 4000000
/-! enumerate over a tuple -/
namespace Uv
open PySem PySem.Spec L2
open PyProof.Rows hiding St
abbrev tiObj (t : Addr) : Obj := { cls := .type "tuple_iterator", data := .fields #[.ref t, .int 0 0] }
abbrev enObj (j : Addr) : Obj := { cls := .type "enumerate", data := .fields #[.none, .bool false, .ref j, rawInt 0, .none, .none] }
theorem enT_meets (t : Addr) (o : Obj) (xs : Array Value) (n : Nat) (hc : o.cls = .type "tuple") (hd : o.data = .seq xs n) :
    Meets (Builtin.«enumerate.__new__» ⟨[.type "enumerate", .ref t], []⟩) (fun _ R s => s.heap.get? t = some o ∧ R (.ok (.ret (.ref (s.heap.push (tiObj t)).objs.size))) { s with heap := (s.heap.push (tiObj t)).push (enObj s.heap.objs.size) }) :=
  .of_wp fun prog w A R s h => by
    obtain ⟨hp, g, d, k, os⟩ := s; obtain ⟨ht, h⟩ := h
    have se := sub_enumerate
    have hT : Heap.IsTuple (Shared.heap ⟨hp, g, d, k, os⟩) t xs := ⟨_, ht, hc, n, hd⟩
    wp_walk using AutoSeq1.wpAny_loadPart' ht
    refine wpAny_stack_any fun _ => wpAny_pure ?_
    split
    · rename_i c _ _ _ _ _
      cases (c == Value.type "enumerate") <;> (wp_walk using AutoSeq1.wpAny_loadPart' ht, wpAny_pyIter_tuple hT; exact ⟨_, rfl, h⟩)
    · wp_walk using AutoSeq1.wpAny_loadPart' ht, wpAny_pyIter_tuple hT
      exact ⟨_, rfl, h⟩
theorem enT_call {P : Program} {w : World} {A : Around} {E : Value → Shared → Prop} {s : Shared} {t : Addr} {xs : Array Value} {Q : Value → Shared → Prop} (hT : s.heap.IsTuple t xs)
    (h : ∀ h', IsEnum h' (s.heap.objs.size + 1) s.heap.objs.size 0 .none → h'.IsTupleIter s.heap.objs.size t 0 → (∀ b o, s.heap.get? b = some o → h'.get? b = some o) → Q (.ref (s.heap.objs.size + 1)) { s with heap := h' }) :
    wpAny (model P w) A (call (.type "enumerate") [.ref t]) Q E s := by
  obtain ⟨o, ho, hc, n, hd⟩ := hT
  refine callType_new F.called_enumerate (by decide) (F.typeCall_enumerate_1 _) (F.newCall_enumerate_1 _) (fun obj => F.args_object_init_2 obj _) F.entry_enumerate_new (enT_meets t o xs n hc hd) ⟨ho, ?_⟩
  have z : (s.heap.push (tiObj t)).objs.size = s.heap.objs.size + 1 := Heap.size_push ..
  have he : ((s.heap.push (tiObj t)).push (enObj s.heap.objs.size)).get? (s.heap.objs.size + 1) = some (enObj s.heap.objs.size) := by
    rw [← z]; exact Heap.get?_push_size _ rfl
  show _ ∧ _
  rw [z]
  exact ⟨⟨_, he, rfl⟩, h _ he ⟨_, Heap.get?_push_of_some _ (Heap.get?_push_size _ rfl), rfl, rfl⟩ fun b u e => Heap.get?_push_of_some _ (Heap.get?_push_of_some _ e)⟩
theorem drT {P : Program} {w : World} {A : Around} (hh : A.handled = none) (it t : Addr) (ne : t ≠ it) (xs : Array Value) : Draws P w A it [it, t] xs.size (fun i v => xs[i]? = some v) (fun i h => h.IsTupleIter it t i ∧ h.IsTuple t xs) :=
  ⟨fun _ _ st => by obtain ⟨o, ho, _⟩ := st.1; exact ⟨o, ho⟩, fun _ _ _ st hk => ⟨st.1.at fun o e => hk it (by simp) o e, st.2.at fun o e => hk t (by simp) o e⟩,
    fun i s Q E hi st hQ => RZ.nextOf_tuple_item st.1 st.2 (Array.getElem?_eq_getElem hi) fun h' a b => hQ _ h' s.toks (Array.getElem?_eq_getElem hi) ⟨a, st.2.extBut b.extBut ne⟩ b,
    fun s Q E st hE => RZ.nextOf_tuple_end hh st.1 st.2 (Array.getElem?_eq_none (Nat.le_refl _)) hE⟩
theorem drE {P : Program} {w : World} {A : Around} (hh : A.handled = none) (it t : Addr) (xs : Array Value) (n : Nat) (hn : xs.size ≤ n) : Draws P w A it [it, t] n (fun _ _ => False) (fun i h => i = n ∧ h.IsTupleIter it t n ∧ h.IsTuple t xs) :=
  ⟨fun _ _ st => by obtain ⟨o, ho, _⟩ := st.2.1; exact ⟨o, ho⟩, fun _ _ _ st hk => ⟨st.1, st.2.1.at fun o e => hk it (by simp) o e, st.2.2.at fun o e => hk t (by simp) o e⟩,
    fun i s Q E hi st hQ => absurd st.1 (Nat.ne_of_lt hi), fun s Q E st hE => RZ.nextOf_tuple_end hh st.2.1 st.2.2 (Array.getElem?_eq_none hn) hE⟩
/-- the tuple at a, each item in a new pair with its place -/
def IteT (K : PySem.W.Frag) (a : Addr) : It :=
  ⟨fun i H => ∃ (xs : List V) (x : V), SqT K H a xs ∧ xs[i]? = some x, fun i H v H' => ∃ T x, v = .ref T ∧ H T = none ∧ H' = upd H T (.tup [.int (i : Nat), x]) ∧ ∀ xs, SqT K H a xs → xs[i]? = some x, fun i H => ∃ xs : List V, SqT K H a xs ∧ xs.length ≤ i⟩
theorem turn_enT {P : Program} {w : World} {K : PySem.W.Frag} {elts : List Expr} {kk : Nat} {tpos : Pos} (a e it : Addr) :
    Turn P w K (.Tuple elts kk tpos) (IteT K a) [e, it] e (fun i h => (∃ old, IsEnum h e it ((i : Nat) : Int) old) ∧ h.IsTupleIter it a i ∧ e ≠ it) where
  mem := List.mem_cons_self
  obj := fun i h st b hb => by
    obtain ⟨⟨old, he⟩, ⟨o, ho, hc, hd⟩, _⟩ := st
    rcases List.mem_cons.mp hb with z | z
    · subst z; exact ⟨_, he, fun v q => nomatch q⟩
    · rw [List.mem_singleton.mp z]; exact ⟨o, ho, fun v q => by rw [hd] at q; cases q⟩
  keep := fun i h h' ⟨⟨old, he⟩, hi, ne⟩ k => ⟨⟨old, k e (by simp) _ he⟩, hi.at fun o q => k it (by simp) o q, ne⟩
  item := by
    intro X hP hw hK hc i pins s σ H E I hf ⟨⟨old, he⟩, hit, hne⟩ ⟨xs, x, hq, hx⟩
    subst hP hw hK
    obtain ⟨its, rv, p, hz⟩ := I.tuple hq
    obtain ⟨u, hu, ru⟩ := rv.get hx
    have el : e < s.heap.objs.size := Heap.lt_size he
    have il : it < s.heap.objs.size := by obtain ⟨_, q, _⟩ := hit; exact Heap.lt_size q
    have nea : e ≠ a := fun z => by
      obtain ⟨o, ho, c, _⟩ := p
      rw [← z, he] at ho
      rw [← Option.some.inj ho] at c
      exact absurd (Value.type.inj c) (by decide)
    have nai : a ≠ it := fun z => by
      obtain ⟨o, ho, c, _⟩ := p
      obtain ⟨o2, ho2, c2, _⟩ := hit
      rw [z, ho2] at ho
      rw [← Option.some.inj ho, c2] at c
      exact absurd (Value.type.inj c) (by decide)
    have ilt : i < its.toArray.size := by
      have := (List.getElem?_eq_some_iff.mp hu).1
      simpa using this
    refine wpAny_pyNext_enum_itemD (drT (show X.A.in1.handled = none from I.ok.hd hc) it a nai its.toArray) he ⟨hit, p⟩ ilt hne (by simp [hne, nea]) fun y h' tk hy ho ⟨hit', _⟩ hT hsz hk => ?_
    have eyu : y = u := by
      rw [List.getElem?_toArray, hu] at hy
      exact (Option.some.inj hy).symm
    subst eyu
    refine ⟨_, rfl, wpAny_letOwnedTupleGo_enum (s := { s with heap := h', toks := tk + 1 }) ho fun h2 he' sb => ?_⟩
    have hT2 : h2.get? s.heap.objs.size = some { cls := .type "tuple", data := .seq #[.int i tk, y] } := (sb.2 _ (Nat.ne_of_gt el)).trans hT
    have new : ObjOk X.prog X.w (upd H s.heap.objs.size (.tup [.int (i : Nat), x])) h2 s.heap.objs.size (.tup [.int (i : Nat), x]) :=
      ⟨by show 2 ≤ sizeLine; decide, [.int i tk, y], .cons ⟨_, rfl⟩ (.cons ru .nil), ⟨_, hT2, rfl, _, rfl⟩⟩
    have I1 : Inv X pins σ (upd H s.heap.objs.size (.tup [.int (i : Nat), x])) { s with heap := h2, toks := tk + 1 } :=
      I.turnedNew (ch := [e, it]) (fun b ob hb q => (sb.2 b (fun z => hb (by simp [z]))).trans (hk b ob (fun z => hb (by simp [z])) (fun z => hb (by simp [z])) q)) hf (Nat.le_refl _) new
    refine ⟨.ref s.heap.objs.size, _, I1, rfl, ⟨_, x, rfl, I.hok.fresh (Nat.le_refl _), rfl, fun ys hy => by rw [I.tuple_inj hy hq]; exact hx⟩, ⟨⟨y, by rw [show ((i + 1 : Nat) : Int) = (i : Int) + 1 by omega]; exact he'⟩, hit'.at fun o q => (sb.2 it (Ne.symm hne)).trans q, hne⟩, fun b hb => ?_⟩
    have bl : b < s.heap.objs.size := by
      rcases List.mem_cons.mp hb with z | z
      · rw [z]; exact el
      · rw [List.mem_singleton.mp z]; exact il
    rw [upd_ne (Nat.ne_of_lt bl)]
    exact (hf b hb).1
  done := by
    intro X hP hw hK hc i pins s σ H E I hf ⟨⟨old, he⟩, hit, hne⟩ ⟨xs, hq, hx⟩
    subst hP hw hK
    obtain ⟨its, rv, p, hz⟩ := I.tuple hq
    obtain ⟨f0, f1, f2, f3, f4, f5⟩ := hf it (by simp)
    have hl := rv.length
    exact wpAny_pyNext_enum_endD (drE (show X.A.in1.handled = none from I.ok.hd hc) it a its.toArray i (by rw [List.size_toArray]; omega)) he ⟨rfl, hit, p⟩ fun h' eb => ⟨rfl, I.turned (t' := s.toks) (fun b o hb q => eb b o hb q) f0 f1 f3 f4 f5⟩
  self := fun A i s Q E ⟨⟨_, he⟩, _⟩ h => wpAny_pyIter_enum he h
def iEnumT (K : PySem.W.Frag) (ta : TA) : TI := fun σ H R => ta σ H fun vs H1 => ∃ a xs, vs = [.ref a] ∧ SqT K H1 a xs ∧ R (IteT K a) H1
theorem pi_enT {X : Cx} {e : Expr} {ta : TA} {p pos tpos : Pos} {elts : List Expr} {kk : Nat} (hg : Gl X "enumerate") (hm : X.mg "enumerate" = none) (ha : PA X [e] ta) (hs : starEach [e] X.env = [(false, eval e X.env)] := by rfl) :
    PI X (.Tuple elts kk tpos) (.Call (.Name "enumerate" p) [e] [] pos) (iEnumT X.K ta) := by
  refine ⟨fun pins s σ H R I h => ?_⟩
  refine Call_ (ld_blt I hg hm boot_enumerate (PyProof.Rows.callWith_type1 (thn (ha.run pos pins s σ H _ I h) fun us s1 ⟨vs, H1, I1, r1, a, xs, ex, hq, q⟩ => ?_) hs rfl))
  subst ex
  obtain ⟨u, rfl, ru⟩ := r1.one
  cases ru
  obtain ⟨its, rv, pt, hz⟩ := I1.tuple hq
  refine enT_call pt fun h' he hit hk => wpAny_pyIter_enum he ?_
  refine ⟨_, [s1.heap.objs.size + 1, s1.heap.objs.size], _, _, H1, rfl, I1.kept (t' := s1.toks) hk, turn_enT a (s1.heap.objs.size + 1) s1.heap.objs.size, ⟨⟨.none, he⟩, hit, Nat.succ_ne_self _⟩, fun b hb => ?_, q⟩
  have le : s1.heap.objs.size ≤ b := by
    rcases List.mem_cons.mp hb with z | z
    · rw [z]; exact Nat.le_succ _
    · rw [List.mem_singleton.mp z]; exact Nat.le_refl _
  exact I1.fpOk le (I1.hok.fresh le)
theorem s_ienumT {K : PySem.W.Frag} {σ : L2.St} {H : Hp} {R : It → Hp → Prop} {ta : TA} (h : ta σ H fun vs H1 => ∃ a xs, vs = [.ref a] ∧ SqT K H1 a xs ∧ R (IteT K a) H1) : iEnumT K ta σ H R := h
theorem loopET {K : PySem.W.Frag} {σ : L2.St} {H : Hp} {D : Ends} {a : Addr} {xs : List V} {g : TG} {tb : TS} (I : Nat → L2.St → Hp → Prop) (h0 : I 0 σ H) (ha : ∀ i σ H', I i σ H' → SqT K H' a xs) (hx : ∀ σ H, I xs.length σ H → D.nx σ H)
    (hs : ∀ i x T σ H, xs[i]? = some x → I i σ H → H T = none → g (.ref T) σ (upd H T (.tup [.int (i : Nat), x])) fun σ2 H2 => tb { D with nx := I (i + 1), ct := I (i + 1), bk := D.nx } σ2 H2) :
    ∃ a' xs, [V.ref a] = [V.ref a'] ∧ SqT K H a' xs ∧ LoopR (IteT K a') g tb D σ H := by
  refine ⟨a, xs, rfl, ha _ _ _ h0, loop_n xs.length I h0 (fun σ H' h => ⟨xs, ha _ _ _ h, Nat.le_refl _⟩) (fun i σ H' h z => ⟨xs, xs[i], ha _ _ _ h, List.getElem?_eq_getElem z⟩) hx fun i v σ H2 H' z h y => ?_⟩
  obtain ⟨T, x, rfl, hT, rfl, f1⟩ := y
  exact hs i x T σ H2 (f1 xs (ha _ _ _ h)) h hT
end Uv

set_option Elab.async false
set_option linter.all false
set_option maxRecDepth 100000
set_option maxHeartbeats 4000000
namespace Dq
open PySem PySem.Spec L2 Uv
open PyProof.Rows hiding St
/-! ### dicts whose keys are tuples, these also of the written part -/
def Ent (P : Program) (w : World) (d : Addr) (xs : List (List Key × Addr × Value)) : Heap → Prop := fun h =>
  ∃ o es ep, h.get? d = some o ∧ o.ExactDict ∧ o.data = .dict es ep ∧ es.toList = xs.map (entryOfKey (tupleKind (mixKind P w)))
abbrev KQ (K : PySem.W.Frag) (H : Hp) : List (List Key × V) → List (List Key × Addr × Value) → Prop := Paired fun p q => p.1 = q.1 ∧ (SqT K H q.2.1 (p.1.map kV) ∧ RelV p.2 q.2.2)
structure DTab (P : Program) (w : World) (K : PySem.W.Frag) (H : Hp) (d : Addr) (kvs : List (List Key × V)) : Prop where
  sm : (d == sysModules) = false
  l : kvs.length ≤ sizeLine
  ex : ∃ xs, H d = some (.ext (Ent P w d xs)) ∧ KQ K H kvs xs ∧ (xs.map fun x => x.1).Nodup
theorem kq_to {K : PySem.W.Frag} {H H' : Hp} {kvs : List (List Key × V)} {xs : List (List Key × Addr × Value)} (r : KQ K H kvs xs) (m : ∀ b ys, SqT K H b ys → SqT K H' b ys) : KQ K H' kvs xs :=
  L2.Paired.mapP r fun a b z => ⟨z.1, m _ _ z.2.1, z.2.2⟩
theorem kq_val {K : PySem.W.Frag} {H : Hp} {kvs : List (List Key × V)} {xs : List (List Key × Addr × Value)} (r : KQ K H kvs xs) (k : List Key) : RelO (valV kvs k) ((atKey xs k).map fun z => z.2) := by
  induction r with
  | nil => trivial
  | @cons a b as bs q t ih =>
    by_cases c : b.1 = k
    · rw [valV_pos (q.1.trans c), show atKey (b :: bs) k = some b.2 by simp [atKey, List.find?_cons, c]]
      exact q.2.2
    · rw [valV_neg fun z => c (q.1.symm.trans z), show atKey (b :: bs) k = atKey bs k by simp [atKey, List.find?_cons, c]]
      exact ih
theorem kq_mem {K : PySem.W.Frag} {H : Hp} {kvs : List (List Key × V)} {xs : List (List Key × Addr × Value)} (r : KQ K H kvs xs) : ∀ x ∈ xs, SqT K H x.2.1 (x.1.map kV) := by
  induction r with
  | nil => intro x hx; cases hx
  | @cons a b as bs q t ih =>
    intro x hx
    rcases List.mem_cons.mp hx with rfl | hx
    · rw [← q.1]; exact q.2.1
    · exact ih x hx
theorem dtab_im {P : Program} {w : World} {K : PySem.W.Frag} {H H' : Hp} {d : Addr} {kvs : List (List Key × V)} (t : DTab P w K H d kvs) (m : Im H H') : DTab P w K H' d kvs :=
  let ⟨xs, a, b, c⟩ := t.ex
  ⟨t.sm, t.l, xs, m _ _ trivial a, kq_to b fun _ _ z => sqt_im z m, c⟩
section
variable {X : Cx} {pins : List (Addr × Obj)} {σ : L2.St} {H : Hp} {s : Shared} {d b : Addr} {kvs : List (List Key × V)} {k : List Key} {A : Around} {E : Value → Shared → Prop}
theorem key_q (I : Inv X pins σ H s) (e : SqT X.K H b (k.map kV)) : (tupleKind (mixKind X.prog X.w)).is s.heap k b := by
  obtain ⟨its, r, ⟨o, h1, h2, n, h3⟩, _⟩ := I.tuple e
  exact ⟨o, its.toArray, n, h1, h2, h3, by simpa using items_are r⟩
theorem dof (I : Inv X pins σ H s) (t : DTab X.prog X.w X.K H d kvs) : ∃ xs, H d = some (.ext (Ent X.prog X.w d xs)) ∧ KQ X.K H kvs xs ∧ (xs.map fun x => x.1).Nodup ∧ s.heap.DictOfH (tupleKind (mixKind X.prog X.w)) d xs := by
  obtain ⟨xs, a, r, n⟩ := t.ex
  obtain ⟨⟨o, es, ep, h1, h2, h3, h4⟩, _⟩ := I.hok d _ a
  exact ⟨xs, a, r, n, o, es, ep, h1, h2, h3, h4, fun x hx => key_q I (kq_mem r x hx), n⟩
theorem type_q (I : Inv X pins σ H s) (t : DTab X.prog X.w X.K H d kvs) : s.TypeIs (.ref d) "dict" := let ⟨_, _, _, _, m⟩ := dof I t; m.typeIs
theorem get_q {v : V} {Q : Value → Shared → Prop} (hu : A.units + 1 < cLine) (I : Inv X pins σ H s) (t : DTab X.prog X.w X.K H d kvs) (e : SqT X.K H b (k.map kV)) (l : valV kvs k = some v) (h : ∀ u s', Inv X pins σ H s' → RelV v u → Q u s') :
    wpAny (model X.prog X.w) A (getItem (.ref d) (.ref b)) Q E s := by
  obtain ⟨xs, _, r, _, m⟩ := dof I t
  have z := kq_val r k
  rw [l] at z
  obtain ⟨u, hu1, ru⟩ := RelO.some_of z
  obtain ⟨p, hp, rfl⟩ := Option.map_eq_some_iff.mp hu1
  exact wpAny_getItem_heap (tupleKind_room_in1 hu) (key_q I e) m hp (h _ _ (I.tok _) ru)
theorem in_q {Q : Value → Shared → Prop} (hu : A.units + 1 < cLine) (I : Inv X pins σ H s) (t : DTab X.prog X.w X.K H d kvs) (e : SqT X.K H b (k.map kV)) (h : ∀ s', Inv X pins σ H s' → Q (.bool (valV kvs k).isSome) s') :
    wpAny (model X.prog X.w) A (compareOp .In (.ref b) (.ref d)) Q E s := by
  obtain ⟨xs, _, r, _, m⟩ := dof I t
  have z := (kq_val r k).isSome_eq
  rw [Option.isSome_map] at z
  refine wpAny_in_heap (tupleKind_room_in1 hu) (key_q I e) t.sm m ?_
  rw [← z]
  exact h _ (I.tok _)
theorem notin_q {Q : Value → Shared → Prop} (hu : A.units + 1 < cLine) (I : Inv X pins σ H s) (t : DTab X.prog X.w X.K H d kvs) (e : SqT X.K H b (k.map kV)) (h : ∀ s', Inv X pins σ H s' → Q (.bool (!(valV kvs k).isSome)) s') :
    wpAny (model X.prog X.w) A (compareOp .NotIn (.ref b) (.ref d)) Q E s := by
  obtain ⟨xs, _, r, _, m⟩ := dof I t
  have z := (kq_val r k).isSome_eq
  rw [Option.isSome_map] at z
  refine wpAny_notIn_heap (tupleKind_room_in1 hu) (key_q I e) t.sm m ?_
  rw [← z]
  exact h _ (I.tok _)
/-- a new key -/
theorem set_q {v : V} {u : Value} {Q : Unit → Shared → Prop} (hu : A.units + 1 < cLine) (I : Inv X pins σ H s) (t : DTab X.prog X.w X.K H d kvs) (e : SqT X.K H b (k.map kV)) (l : valV kvs k = none) (lz : kvs.length < sizeLine) (rv : RelV v u)
    (h : ∀ o s', DTab X.prog X.w X.K (upd H d o) d (kvs ++ [(k, v)]) → (∀ c ys, SqT X.K H c ys → SqT X.K (upd H d o) c ys) → Inv X pins σ (upd H d o) s' → Q () s') :
    wpAny (model X.prog X.w) A (setItem (.ref d) (.ref b) u) Q E s := by
  obtain ⟨xs, a, r, n, m⟩ := dof I t
  have lx : kvs.length = xs.length := Paired.length r
  have z := (kq_val r k).isSome_eq
  rw [Option.isSome_map, l] at z
  have na : atKey xs k = none := by
    cases q : atKey xs k with
    | none => rfl
    | some y => rw [q] at z; cases z
  have es : storedH xs k b u = xs ++ [(k, b, u)] := by
    unfold storedH
    rw [na]
    rfl
  refine wpAny_setItem_heap (hsz := by rw [← lx]; exact t.l) (tupleKind_room_in1 hu) (key_q I e) m fun h' m' sb => ?_
  rw [es] at m'
  obtain ⟨o, en, ep, h1, h2, h3, h4, _, h5⟩ := m'
  have keep : ∀ c ys, SqT X.K H c ys → SqT X.K (upd H d (.ext (Ent X.prog X.w d (xs ++ [(k, b, u)])))) c ys := fun c ys q => by
    have off : ∀ w : HO, (∀ φ, w ≠ .ext φ) → H c = some w → upd H d (.ext (Ent X.prog X.w d (xs ++ [(k, b, u)]))) c = some w := fun w nw q => by
      rw [upd_ne fun z => by rw [z, a] at q; exact nw _ (Option.some.inj q).symm]
      exact q
    rcases q with (q | ⟨w, q⟩) | q
    · exact .inl (.inl (off _ (fun _ z => by cases z) q))
    · exact .inl (.inr ⟨w, off _ (fun _ z => by cases z) q⟩)
    · exact .inr q
  refine h _ _ ⟨t.sm, by rw [List.length_append]; exact lz, _, upd_same, Paired.snoc (kq_to r keep) ⟨rfl, keep _ _ e, rv⟩, h5⟩ keep ?_
  exact I.write (x := d) (e := d) (by rw [a]; trivial) (.inl rfl) (fun c q hc y => (sb.2 c hc).trans y) ⟨o, h1⟩ ⟨⟨o, en, ep, h1, h2, h3, h4⟩, ⟨o, h1⟩, fun g1 g2 ⟨o, en, ep, y, r⟩ kp => ⟨o, en, ep, kp o y, r⟩⟩
end
/-! the rules -/
def tGetQ (P : Program) (w : World) (K : PySem.W.Frag) (td ty : TE) : TE := fun σ H Q => td σ H fun x H1 => ty σ H1 fun y H2 => ∃ d b kvs k v, x = .ref d ∧ y = .ref b ∧ DTab P w K H2 d kvs ∧ SqT K H2 b (k.map kV) ∧ valV kvs k = some v ∧ Q v H2
def tInQ (P : Program) (w : World) (K : PySem.W.Frag) (neg : Bool) (ty td : TE) : TE := fun σ H Q => ty σ H fun y H1 => td σ H1 fun x H2 => ∃ d b kvs k, x = .ref d ∧ y = .ref b ∧ DTab P w K H2 d kvs ∧ SqT K H2 b (k.map kV) ∧ Q (.bl (neg.xor (valV kvs k).isSome)) H2
def sPutQ (P : Program) (w : World) (K : PySem.W.Frag) (td ty tv : TE) : TS := fun D σ H => tv σ H fun v H1 => td σ H1 fun x H2 => ty σ H2 fun y H3 => ∃ d b kvs k, x = .ref d ∧ y = .ref b ∧ DTab P w K H3 d kvs ∧ SqT K H3 b (k.map kV) ∧ valV kvs k = none ∧ kvs.length < sizeLine ∧
  ∀ o, DTab P w K (upd H3 d o) d (kvs ++ [(k, v)]) → (∀ c ys, SqT K H3 c ys → SqT K (upd H3 d o) c ys) → D.nx σ (upd H3 d o)
def tNewQ (P : Program) (w : World) (K : PySem.W.Frag) : TE := fun σ H Q => ∀ d o, H d = none → DTab P w K (upd H d o) d [] → Q (.ref d) (upd H d o)
section
variable {X : Cx} {o i value : Expr} {td ty tv : TE} {pos pos' : Pos}
theorem pe_getQ (hu : X.A.units + 1 < cLine) (ho : PE X o td) (hi : PE X i ty) (hs : NoSl i) : PE X (.Subscript o i pos) (tGetQ X.prog X.w X.K td ty) := by
  refine ⟨fun pins s σ H Q I h => subD_of PySem.F.slot_dict_getitem.lookup hs (thn (ho.run pins s σ H _ I h) fun u1 s1 ⟨x, H1, I1, r1, q1⟩ => thn (hi.run pins s1 σ H1 _ I1 q1) fun u2 s2 ⟨y, H2, I2, r2, d, b, kvs, k, v, ex, ey, t, e, l, q2⟩ => ?_)⟩
  subst ex ey
  cases (show u1 = Value.ref d from r1)
  cases (show u2 = Value.ref b from r2)
  exact ⟨type_q I2 t, get_q hu I2 t e l fun u s3 I3 ru => ⟨v, H2, I3, ru, q2⟩⟩
theorem pc_inQ (hu : X.A.units + 1 < cLine) (hi : PE X i ty) (ho : PE X o td) : PC X .In i o (tInQ X.prog X.w X.K false ty td) := by
  refine ⟨fun pins s σ H Q I h => thn (hi.run pins s σ H _ I h) fun u1 s1 ⟨y, H1, I1, r1, q1⟩ => thn (ho.run pins s1 σ H1 _ I1 q1) fun u2 s2 ⟨x, H2, I2, r2, d, b, kvs, k, ex, ey, t, e, q2⟩ => ?_⟩
  subst ex ey
  cases (show u2 = Value.ref d from r2)
  cases (show u1 = Value.ref b from r1)
  exact in_q hu I2 t e fun s3 I3 => ⟨.bl (valV kvs k).isSome, H2, I3, rfl, by simpa using q2⟩
theorem pc_notinQ (hu : X.A.units + 1 < cLine) (hi : PE X i ty) (ho : PE X o td) : PC X .NotIn i o (tInQ X.prog X.w X.K true ty td) := by
  refine ⟨fun pins s σ H Q I h => thn (hi.run pins s σ H _ I h) fun u1 s1 ⟨y, H1, I1, r1, q1⟩ => thn (ho.run pins s1 σ H1 _ I1 q1) fun u2 s2 ⟨x, H2, I2, r2, d, b, kvs, k, ex, ey, t, e, q2⟩ => ?_⟩
  subst ex ey
  cases (show u2 = Value.ref d from r2)
  cases (show u1 = Value.ref b from r1)
  exact notin_q hu I2 t e fun s3 I3 => ⟨.bl (!(valV kvs k).isSome), H2, I3, rfl, by simpa using q2⟩
theorem ps_putQ (hu : X.A.units + 1 < cLine) (ho : PE X o td) (hi : PE X i ty) (hv : PE X value tv) (hs : swapsWith value (some (.Subscript o i pos')) pos.line X.env = pure false) : PS X (.Assign [.Subscript o i pos'] value pos) (sPutQ X.prog X.w X.K td ty tv) := by
  refine ⟨fun pins s σ H D I h => wpAny_Assign_Subscript (thn (hv.run pins s σ H _ I h) fun u0 s1 ⟨v, H1, I1, r0, q1⟩ => thn (ho.run pins s1 σ H1 _ I1 q1) fun u1 s2 ⟨x, H2, I2, r1, q2⟩ => thn (hi.run pins s2 σ H2 _ I2 q2) fun u2 s3 ⟨y, H3, I3, r2, d, b, kvs, k, ex, ey, t, e, l, z, q3⟩ => ?_) hs⟩
  subst ex ey
  cases (show u1 = Value.ref d from r1)
  cases (show u2 = Value.ref b from r2)
  exact set_q hu I3 t e l z r0 fun o s4 t4 kp I4 => ⟨σ, _, I4, q3 o t4 kp⟩
theorem pe_newQ : PE X (.Dict [] [] pos) (tNewQ X.prog X.w X.K) := ⟨fun pins s σ H Q I h =>
  wpAny_Dict_empty ⟨.ref s.heap.objs.size, _, I.laid (a := s.heap.objs.size) (o := .ext (Ent X.prog X.w s.heap.objs.size [])) (t' := s.toks) (fun _ _ q => Heap.get?_push_of_some _ q) (Nat.le_refl _)
    ⟨⟨_, #[], 0, Heap.get?_push_size _ rfl, ⟨rfl, rfl, rfl⟩, rfl, rfl⟩, ⟨_, Heap.get?_push_size _ rfl⟩, fun g1 g2 ⟨o, en, ep, y, r⟩ kp => ⟨o, en, ep, kp o y, r⟩⟩, rfl,
    h _ _ (I.hok.fresh (Nat.le_refl _)) ⟨beq_eq_false_iff_ne.mpr (Ne.symm (Nat.ne_of_lt I.big)), Nat.zero_le _, [], upd_same, .nil, List.nodup_nil⟩⟩⟩
/-- list(d) -/
def rListQ (P : Program) (w : World) (K : PySem.W.Frag) : List V → Hp → VK → Prop := fun xs H Q => ∃ d kvs, xs = [V.ref d] ∧ DTab P w K H d kvs ∧ ∀ p (bs : List Addr), H p = none → bs.length = kvs.length → (∀ (i : Nat) kv b, kvs[i]? = some kv → bs[i]? = some b → SqT K H b (kv.1.map kV)) → Q (.ref p) (upd H p (.lst (bs.map V.ref)))
theorem call_listQ (hc : X.calm = true) : CallR X (.type "list") (rListQ X.prog X.w X.K) := by
  rintro pins s σ H _ us Q I r ⟨d, kvs, rfl, t, q⟩
  obtain ⟨u, rfl, rx⟩ := r.one
  cases rx
  obtain ⟨xs, a, rel, nd, o, es, ep, h1, h2, h3, h4, h5, h6⟩ := dof I t
  have lx : kvs.length = xs.length := Paired.length rel
  have le : es.size = xs.length := size_of_entries h4
  have lz := t.l
  refine PySem.W.kdl_call (kdl_raw t.sm h2 h3) (I.ok.hd hc) h1 (by omega) fun h' tk acc c kp e it => ?_
  have key : acc.toList = (xs.map fun x => x.2.1).map Value.ref := by
    refine List.ext_getElem (by rw [Array.length_toList, it.1, List.length_map, List.length_map]; exact le) fun j g1 g2 => ?_
    rw [List.length_map, List.length_map] at g2
    obtain ⟨en, hen, hv⟩ := it.2 j acc.toList[j] (by rw [← Array.getElem?_toList]; exact List.getElem?_eq_getElem g1)
    have y := entry_at h4 j
    rw [hen, List.getElem?_eq_getElem g2] at y
    have y2 : en = entryOfKey (tupleKind (mixKind X.prog X.w)) xs[j] := Option.some.inj y
    rw [hv, y2, List.getElem_map, List.getElem_map]
    rfl
  have vs : Vals ((xs.map fun x => x.2.1).map V.ref) acc.toList := by rw [key]; exact vals_refs _
  refine ⟨.ref s.heap.objs.size, _, I.laid (t' := tk) (o := .lst ((xs.map fun x => x.2.1).map V.ref)) kp (Nat.le_refl _) ⟨by rw [List.length_map, List.length_map]; omega, acc.toList, c, vs, by rw [Array.toArray_toList]; exact e⟩, rfl, q _ _ (I.hok.fresh (Nat.le_refl _)) (by rw [List.length_map]; exact lx.symm) fun i kv b g1 g2 => ?_⟩
  rw [List.getElem?_map] at g2
  cases g : xs[i]? with
  | none => rw [g] at g2; cases g2
  | some x =>
    rw [g] at g2
    cases g2
    have m := kq_mem rel x (List.mem_of_getElem? g)
    have pr : ∀ {l : List (List Key × V)} {m : List (List Key × Addr × Value)}, KQ X.K H l m → ∀ (i : Nat) kv x, l[i]? = some kv → m[i]? = some x → kv.1 = x.1 := by
      intro l m r
      induction r with
      | nil => intro i kv x g; cases g
      | @cons a b as bs q t ih =>
        intro i kv x g g'
        cases i with
        | zero => cases g; cases g'; exact q.1
        | succ i => exact ih i kv x g g'
    rw [pr rel i kv x g1 g]
    exact m
/-- len(d) -/
def rLenQ (P : Program) (w : World) (K : PySem.W.Frag) : List V → Hp → VK → Prop := fun xs H Q => ∃ d kvs, xs = [.ref d] ∧ DTab P w K H d kvs ∧ Q (.int (kvs.length : Nat)) H
theorem call_lenQ : CallR X (.builtin "len") (rLenQ X.prog X.w X.K) := by
  rintro pins s σ H _ us Q I r ⟨d, kvs, rfl, t, q⟩
  obtain ⟨u, rfl, rx⟩ := r.one
  cases rx
  obtain ⟨xs, a, rel, nd, o, es, ep, h1, h2, h3, h4, h5, h6⟩ := dof I t
  have lx : kvs.length = xs.length := Paired.length rel
  have le : es.size = xs.length := size_of_entries h4
  have lz := t.l
  have hz := sizeLine_eq
  refine PyProof.Rows.call_len_slot (n := (kvs.length : Nat)) (T := "dict") (id := "dict.__len__") ⟨o, h1, h2.1⟩ PySem.F.slot_dict_len (fun Q' hq => ?_) (by omega) (by omega) ⟨.int (kvs.length : Nat), H, (I.tok _).tok _, ⟨_, rfl⟩, q⟩
  refine call_len_raw t.sm (es := es) (ep := ep) ⟨o, h1, h2, h3⟩ ?_
  rw [le, ← lx]
  exact hq
end
section
variable {P : Program} {w : World} {K : PySem.W.Frag} {σ : L2.St} {H : Hp} {Q : VK} {td ty tv : TE} {D : Ends} {neg : Bool}
theorem s_getQ (h : td σ H fun x H1 => ty σ H1 fun y H2 => ∃ d b kvs k v, x = .ref d ∧ y = .ref b ∧ DTab P w K H2 d kvs ∧ SqT K H2 b (k.map kV) ∧ valV kvs k = some v ∧ Q v H2) : tGetQ P w K td ty σ H Q := h
theorem s_inQ (h : ty σ H fun y H1 => td σ H1 fun x H2 => ∃ d b kvs k, x = .ref d ∧ y = .ref b ∧ DTab P w K H2 d kvs ∧ SqT K H2 b (k.map kV) ∧ Q (.bl (neg.xor (valV kvs k).isSome)) H2) : tInQ P w K neg ty td σ H Q := h
theorem s_putQ (h : tv σ H fun v H1 => td σ H1 fun x H2 => ty σ H2 fun y H3 => ∃ d b kvs k, x = .ref d ∧ y = .ref b ∧ DTab P w K H3 d kvs ∧ SqT K H3 b (k.map kV) ∧ valV kvs k = none ∧ kvs.length < sizeLine ∧
  ∀ o, DTab P w K (upd H3 d o) d (kvs ++ [(k, v)]) → (∀ c ys, SqT K H3 c ys → SqT K (upd H3 d o) c ys) → D.nx σ (upd H3 d o)) : sPutQ P w K td ty tv D σ H := h
theorem s_newQ (h : ∀ d H', H d = none → Ex H H' → DTab P w K H' d [] → Q (.ref d) H') : tNewQ P w K σ H Q := fun d o n t => h d _ n (exN n) t
end
end Dq

set_option Elab.async false
set_option linter.all false
set_option maxRecDepth 100000
set_option maxHeartbeats 4000000
namespace Uv
open PySem PySem.Spec L2
open PyProof.Rows hiding St
/-! ### enumerate over a name that holds a list or a tuple -/
def iEnumA (K : PySem.W.Frag) (ta : TA) : TI := fun σ H R => iEnum K ta σ H R ∨ iEnumT K ta σ H R
theorem pi_enA {X : Cx} {e : Expr} {ta : TA} {p pos tpos : Pos} {elts : List Expr} {kk : Nat} (hg : Gl X "enumerate") (hm : X.mg "enumerate" = none) (ha : PA X [e] ta) (hs : starEach [e] X.env = [(false, eval e X.env)] := by rfl) :
    PI X (.Tuple elts kk tpos) (.Call (.Name "enumerate" p) [e] [] pos) (iEnumA X.K ta) :=
  ⟨fun pins s σ H R I h => h.elim (fun h => (pi_enum hg hm ha hs).run pins s σ H R I h) fun h => (pi_enT hg hm ha hs).run pins s σ H R I h⟩
theorem loopEA {K : PySem.W.Frag} {σ : L2.St} {H : Hp} {D : Ends} {n : Nat} {a : Addr} {xs : List V} {g : TG} {tb : TS} (hp : SqA K H a xs) (hv : σ[n]? = some (some (.ref a))) (I : Nat → L2.St → Hp → Prop) (h0 : I 0 σ H) (keep : ∀ i σ H', I i σ H' → Kx K H H') (hx : ∀ σ H, I xs.length σ H → D.nx σ H)
    (hs : ∀ i x T σ H, xs[i]? = some x → I i σ H → H T = none → g (.ref T) σ (upd H T (.tup [.int (i : Nat), x])) fun σ2 H2 => tb { D with nx := I (i + 1), ct := I (i + 1), bk := D.nx } σ2 H2) :
    iEnumA K (tCons (tVar n) tNil) σ H fun J H1 => LoopR J g tb D σ H1 := by
  rcases hp with hp | hp
  · left
    obtain ⟨a', ys, e, h1, h2⟩ := loopE (D := D) (g := g) (tb := tb) (σ := σ) (H := H) (xs := xs) (a := a) I h0 (fun i σ H' h => (keep i σ H' h a xs).1 hp) hx hs
    exact ⟨_, hv, a', ys, e, h1, h2⟩
  · right
    obtain ⟨a', ys, e, h1, h2⟩ := loopET (D := D) (g := g) (tb := tb) (σ := σ) (H := H) (xs := xs) (a := a) I h0 (fun i σ H' h => (keep i σ H' h a xs).2 hp) hx hs
    exact ⟨_, hv, a', ys, e, h1, h2⟩
theorem pe_fldK {X : Cx} {K : PySem.W.Frag} {e : Expr} {n : Str} {ta : TE} {pos : Pos} (ek : X.K = K) (he : PE X e ta) (hb : attributeBase e n X.env (eval e X.env) = eval e X.env) : PE X (.Attribute e n pos) (tFld K ta n) := by
  subst ek
  exact pe_fld he hb
end Uv
namespace Dq
open PySem PySem.Spec L2 Uv
open PyProof.Rows hiding St
theorem pe_getQK {X : Cx} {P : Program} {w : World} {K : PySem.W.Frag} {o i : Expr} {td ty : TE} {pos : Pos} (e1 : X.prog = P) (e2 : X.w = w) (e3 : X.K = K) (hu : X.A.units + 1 < cLine) (ho : PE X o td) (hi : PE X i ty) (hs : NoSl i) :
    PE X (.Subscript o i pos) (tGetQ P w K td ty) := by subst e1 e2 e3; exact pe_getQ hu ho hi hs
end Dq

set_option Elab.async false
set_option linter.all false
set_option maxRecDepth 100000
set_option maxHeartbeats 4000000
namespace Uv
open PySem PySem.Spec L2
open PyProof.Rows hiding St
/-! ### data that stands whatever becomes of the objects at S -/
def RDp (S : List Addr) (K : PySem.W.Frag) (H : Hp) (v : V) (d : PyData) : Prop := ∀ H2 : Hp, (∀ a o, a ∉ S → H a = some o → H2 a = some o) → Dp K H2 v d
def RDpA (S : List Addr) (K : PySem.W.Frag) (H : Hp) (vs : List V) (ds : List PyData) : Prop := ∀ H2 : Hp, (∀ a o, a ∉ S → H a = some o → H2 a = some o) → DpAll K H2 vs ds
section
variable {K : PySem.W.Frag} {H H' : Hp} {S S' : List Addr} {v : V} {d : PyData} {vs : List V} {ds : List PyData}
theorem RDp.dp (h : RDp S K H v d) : Dp K H v d := h H fun _ _ _ e => e
theorem RDp.mv (h : RDp S K H v d) (m : ∀ a o, a ∉ S → H a = some o → H' a = some o) : RDp S K H' v d := fun H2 m2 => h H2 fun a o n e => m2 a o n (m a o n e)
theorem RDp.add (h : RDp S K H v d) {q : Addr} (n : H q = none) : RDp (q :: S) K H v d := fun H2 m2 => h H2 fun a o ns e => m2 a o (fun z => (List.mem_cons.mp z).elim (fun z => by rw [z, n] at e; cases e) ns) e
theorem RDp.sub (h : RDp S K H v d) (hs : ∀ a ∈ S', a ∈ S) : RDp S' K H v d := fun H2 m2 => h H2 fun a o n e => m2 a o (fun z => n (hs a z)) e
/-- wider by new ones -/
theorem RDp.wide (h : RDp S K H v d) (hs : ∀ a ∈ S', a ∈ S ∨ H a = none) : RDp S' K H v d := fun H2 m2 => h H2 fun a o n e => m2 a o (fun z => (hs a z).elim n fun z => by rw [z] at e; cases e) e
theorem RDpA.dp (h : RDpA S K H vs ds) : DpAll K H vs ds := h H fun _ _ _ e => e
theorem RDpA.mv (h : RDpA S K H vs ds) (m : ∀ a o, a ∉ S → H a = some o → H' a = some o) : RDpA S K H' vs ds := fun H2 m2 => h H2 fun a o n e => m2 a o n (m a o n e)
theorem RDpA.wide (h : RDpA S K H vs ds) (hs : ∀ a ∈ S', a ∈ S ∨ H a = none) : RDpA S' K H vs ds := fun H2 m2 => h H2 fun a o n e => m2 a o (fun z => (hs a z).elim n fun z => by rw [z] at e; cases e) e
theorem rdpa_nil : RDpA S K H [] [] := fun _ _ => .nil
theorem rdpa_cons (h1 : RDp S K H v d) (h2 : RDpA S K H vs ds) : RDpA S K H (v :: vs) (d :: ds) := fun H2 m => .cons (h1 H2 m) (h2 H2 m)
theorem rdpa_len : RDpA S K H vs ds → vs.length = ds.length := fun h => dpa_length h.dp
theorem dpa_item : ∀ {vs : List V} {ds : List PyData} {i : Nat} {v : V} {d : PyData}, DpAll K H vs ds → vs[i]? = some v → ds[i]? = some d → Dp K H v d
  | _, _, 0, _, _, .cons a _, h1, h2 => by cases h1; cases h2; exact a
  | _, _, i + 1, _, _, .cons _ r, h1, h2 => dpa_item (i := i) r h1 h2
  | _, _, _, _, _, .nil, h1, _ => by cases h1
theorem rdpa_get (h : RDpA S K H vs ds) {i : Nat} (h1 : vs[i]? = some v) (h2 : ds[i]? = some d) : RDp S K H v d := fun H2 m => dpa_item (h H2 m) h1 h2
theorem dpa_mk : ∀ {vs : List V} {ds : List PyData}, vs.length = ds.length → (∀ (i : Nat) v d, vs[i]? = some v → ds[i]? = some d → Dp K H v d) → DpAll K H vs ds
  | [], [], _, _ => .nil
  | [], _ :: _, l, _ => by cases l
  | _ :: _, [], l, _ => by cases l
  | v :: vs, d :: ds, l, h => .cons (h 0 v d rfl rfl) (dpa_mk (by simpa using l) fun i v d a b => h (i + 1) v d a b)
theorem rdpa_mk (l : vs.length = ds.length) (h : ∀ (i : Nat) v d, vs[i]? = some v → ds[i]? = some d → RDp S K H v d) : RDpA S K H vs ds := fun H2 m => dpa_mk l fun i v d a b => h i v d a b H2 m
theorem rdpa_set (h : RDpA S K H vs ds) {i : Nat} (r : RDp S K H v d) : RDpA S K H (vs.set i v) (ds.set i d) := rdpa_mk (by rw [List.length_set, List.length_set]; exact rdpa_len h) fun j w e a b => by
  have l := rdpa_len h
  rw [List.getElem?_set] at a b
  by_cases c : i = j
  · rw [if_pos c] at a b
    split at a
    · rw [if_pos (by omega)] at b
      cases a; cases b; exact r
    · cases a
  · rw [if_neg c] at a b
    exact rdpa_get h a b
theorem dpa_cat : ∀ {vs ws : List V} {ds es : List PyData}, DpAll K H vs ds → DpAll K H ws es → DpAll K H (vs ++ ws) (ds ++ es)
  | _, _, _, _, .nil, h => h
  | _, _, _, _, .cons a r, h => .cons a (dpa_cat r h)
theorem rdpa_app {ws : List V} {es : List PyData} (h1 : RDpA S K H vs ds) (h2 : RDpA S K H ws es) : RDpA S K H (vs ++ ws) (ds ++ es) := fun H2 m => dpa_cat (h1 H2 m) (h2 H2 m)
theorem rdpa_take (h : RDpA S K H vs ds) (n : Nat) : RDpA S K H (vs.take n) (ds.take n) := rdpa_mk (by rw [List.length_take, List.length_take, rdpa_len h]) fun i v d a b => by
  rw [List.getElem?_take] at a b
  split at a
  · rename_i c
    rw [if_pos c] at b
    exact rdpa_get h a b
  · cases a
theorem rdpa_drop (h : RDpA S K H vs ds) (n : Nat) : RDpA S K H (vs.drop n) (ds.drop n) := rdpa_mk (by rw [List.length_drop, List.length_drop, rdpa_len h]) fun i v d a b => by
  rw [List.getElem?_drop] at a b
  exact rdpa_get h a b
theorem rdp_int (i : Int) : RDp S K H (.int i) (.int i) := fun _ _ => .int i
theorem rdpa_ints (n : Nat) (g : Nat → Int) : RDpA S K H ((List.range n).map fun j => V.int (g j)) ((List.range n).map fun j => PyData.int (g j)) := fun H2 _ => by
  induction (List.range n) with
  | nil => exact .nil
  | cons i l ih => exact .cons (.int _) ih
theorem rdp_t {q : Addr} {xs : List V} (hq : H q = some (.tup xs)) (n : q ∉ S) (h : RDpA S K H xs ds) : RDp S K H (.ref q) (.tuple ds) := fun H2 m => .tup (.of (m q _ n hq)) (h H2 m)
theorem rdp_l {q : Addr} {xs : List V} (hq : H q = some (.lst xs)) (n : q ∉ S) (h : RDpA S K H xs ds) : RDp S K H (.ref q) (.list ds) := fun H2 m => .lst (.of (m q _ n hq)) (h H2 m)
end
/-! ### written data -/
class REc (K : PySem.W.Frag) (σ : L2.St) (H0 : Hp) (te : TE) (d : outParam PyData) : Prop where
  h : ∀ (H : Hp) (Q : VK), Ex H0 H → (∀ v H', Ex H H' → (∀ S : List Addr, (∀ a ∈ S, H0 a ≠ none) → RDp S K H' v d) → Q v H') → te σ H Q
class REa (K : PySem.W.Frag) (σ : L2.St) (H0 : Hp) (n : Nat) (ts : TA) (ds : outParam (List PyData)) : Prop where
  h : ∀ (H : Hp) (Q : List V → Hp → Prop), Ex H0 H → (∀ vs H', Ex H H' → (∀ S : List Addr, (∀ a ∈ S, H0 a ≠ none) → RDpA S K H' vs ds) → Q vs H') → ts σ H Q
  l : ds.length ≤ n
section
variable {K : PySem.W.Frag} {σ : L2.St} {H0 H : Hp}
instance : REc K σ H0 (tC .non) .none := ⟨fun H Q _ h => h _ _ (exR H) fun _ _ _ _ => .non⟩
instance (b : Bool) : REc K σ H0 (tC (.bl b)) (.bool b) := ⟨fun H Q _ h => h _ _ (exR H) fun _ _ _ _ => .bl b⟩
instance (i : Int) : REc K σ H0 (tC (.int i)) (.int i) := ⟨fun H Q _ h => h _ _ (exR H) fun _ _ _ _ => .int i⟩
instance (z : Str) : REc K σ H0 (tC (.str z)) (.str z) := ⟨fun H Q _ h => h _ _ (exR H) fun _ _ _ _ => .str z⟩
instance {n : Nat} : REa K σ H0 n tNil [] := ⟨fun H Q _ h => h _ _ (exR H) fun _ _ => rdpa_nil, Nat.zero_le _⟩
instance {n : Nat} {te d ts ds} [h1 : REc K σ H0 te d] [h2 : REa K σ H0 n ts ds] : REa K σ H0 (n + 1) (tCons te ts) (d :: ds) := ⟨fun H Q e h => h1.h H _ e fun v H1 e1 r1 => h2.h H1 _ (e.tr e1) fun vs H2 e2 r2 => h _ _ (e1.tr e2) fun S hS => rdpa_cons ((r1 S hS).mv fun a o _ q => e2 _ _ q) (r2 S hS), Nat.succ_le_succ h2.l⟩
theorem off_new {S : List Addr} {H0 H1 : Hp} {p : Addr} (e : Ex H0 H1) (hS : ∀ a ∈ S, H0 a ≠ none) (n : H1 p = none) : p ∉ S := fun z => by
  have := hS p z
  cases q : H0 p with
  | none => exact this q
  | some o => rw [e _ _ q] at n; cases n
instance {ts ds} [h : REa K σ H0 100 ts ds] : REc K σ H0 (tTup ts) (.tuple ds) := ⟨fun H Q e q => h.h H _ e fun vs H1 e1 r => by
  have r0 := r [] (fun a z => by cases z)
  refine ⟨by rw [rdpa_len r0]; exact Nat.le_trans h.l (by decide), fun p n => q _ _ (e1.tr (exN n)) fun S hS => ?_⟩
  exact rdp_t upd_same (off_new (e.tr e1) hS n) ((r S hS).mv fun a o _ z => exN n _ _ z)⟩
instance {ts ds} [h : REa K σ H0 100 ts ds] : REc K σ H0 (tLst ts) (.list ds) := ⟨fun H Q e q => h.h H _ e fun vs H1 e1 r => by
  have r0 := r [] (fun a z => by cases z)
  refine ⟨by rw [rdpa_len r0]; exact Nat.le_trans h.l (by decide), fun p n => q _ _ (e1.tr (exN n)) fun S hS => ?_⟩
  exact rdp_l upd_same (off_new (e.tr e1) hS n) ((r S hS).mv fun a o _ z => exN n _ _ z)⟩
/-- a written list of data -/
theorem s_rl {ts : TA} {ds : List PyData} {Q : VK} [h : REa K σ H 100 ts ds] (q : ∀ p vs H', H p = none → Ex H H' → H' p = some (.lst vs) → (∀ S : List Addr, (∀ a ∈ S, H a ≠ none) → RDpA S K H' vs ds) → Q (.ref p) H') : tLst ts σ H Q :=
  h.h H _ (exR H) fun vs H1 e1 r => ⟨by rw [rdpa_len (r [] (fun a z => by cases z))]; exact Nat.le_trans h.l (by decide), fun p n => q p vs _ (by
    cases z : H p with
    | none => rfl
    | some o => rw [e1 _ _ z] at n; cases n) (e1.tr (exN n)) upd_same fun S hS => (r S hS).mv fun a o _ z => exN n _ _ z⟩
end
end Uv

set_option Elab.async false
set_option linter.all false
set_option maxRecDepth 100000
set_option maxHeartbeats 4000000
namespace Uv
open PySem PySem.Spec L2
open PyProof.Rows hiding St
/-! ### sorted, of a list or a tuple of texts -/
def rSortedTS (K : PySem.W.Frag) : List V → Hp → VK → Prop := fun vs H Q => ∃ (a : Addr) (xs : List Str), vs = [V.ref a] ∧ SqA K H a (xs.map V.str) ∧ xs.length < 64 ∧
  ∀ (ys : List Str) (p : Addr), ys.Perm xs → sortedS ys = true → H p = none → Q (.ref p) (upd H p (.lst (ys.map V.str)))
section
variable {X : Cx}
theorem cr_sortedTS : CallR X (.builtin "sorted") (rSortedTS X.K) := by
  intro pins s σ H vs us Q I r h
  obtain ⟨a, xs, e, hs, h64, q⟩ := h
  rcases hs with hs | hs
  · exact cr_sortedS pins s σ H vs us Q I r ⟨a, xs, e, hs, h64, q⟩
  subst e
  obtain ⟨its, rv, ht, hz⟩ := I.tuple hs
  obtain ⟨o, ho, hc, n, hd⟩ := ht
  rw [Vals.ref1 r]
  have hS := rv.strs
  have hl : its.length = xs.length := by
    have z := rv.length
    rw [List.length_map] at z
    exact z.symm
  have h16 : its.toArray.size ≤ sizeLine := by
    rw [List.size_toArray, hl, sizeLine_eq]
    omega
  refine Calls.call_function_entry PyProof.Rows.kind_sorted PyProof.Rows.plain_sorted PyProof.Rows.entry_sorted (PyProof.Rows.args_sorted1 _) ?_
  unfold Builtin.«sorted»
  refine wpAny_bind (m := checkCount "sorted" 1 1 _) (wpAny_pure ?_)
  refine wpAny_bind (wpAny_collect_seq a (.inr rfl) ho hc hd (fun h' hk => ?_) h16)
  have I1 : Inv X pins σ H { s with heap := h' } := I.kept (t' := s.toks) hk
  rw [List.toList_toArray]
  refine wpAny_bind (wpAny_newList ?_ (by rw [hl, sizeLine_eq]; omega))
  have hoL : (h'.push (seqObj "list" its.toArray 0)).get? h'.objs.size = some (seqObj "list" its.toArray 0) := Heap.get?_push_size _ rfl
  refine wpAny_bind (wpAny_holding (wpAny_call_entry PyProof.Rows.slot_list_sort ⟨_, hoL, rfl⟩ PyProof.Rows.entry_list_sort
    (list_sort_treeK strKind_oneLt (s := { s with heap := h'.push (seqObj "list" its.toArray 0) }) hoL hS.keysOf (fun v₁ v₂ rest e => keyKind_strs (by rw [← e]; exact hS)) (by rw [hl]; exact h64) fun st' hp hs' => ⟨_, rfl, ?_⟩)
    (PyProof.Rows.args_list_sort _)))
  obtain ⟨ys, g1, g2, g3⟩ := sorted_out_str hS hp hs'
  obtain ⟨e', he'⟩ := PyProof.Rows.sortedHeap_at (vs := its) (out := (arrOf st').map (·.2)) hoL
  have hlen : (ys.map V.str).length ≤ sizeLine := by
    rw [List.length_map, g2.length_eq]
    exact Nat.le_trans (Nat.le_of_lt h64) (by decide)
  refine wpAny_pure ⟨_, rfl, .ref h'.objs.size, upd H h'.objs.size (.lst (ys.map V.str)), I1.laid (t' := s.toks) (fun b u e => ?_) (Nat.le_refl _)
    (show ObjOk X.prog X.w _ _ _ (.lst (ys.map V.str)) from ⟨hlen, ((arrOf st').map (·.2)).toList, e', vals_of_strs g1, by rw [Array.toArray_toList]; exact he'⟩), rfl, q ys _ g2 g3 (I1.hok.fresh (Nat.le_refl _))⟩
  have hb : b < h'.objs.size := Heap.lt_size e
  rw [PyProof.Rows.sortedHeap_old (Nat.ne_of_lt hb) (by rw [PyProof.Rows.size_push']; exact Nat.lt_succ_of_lt hb)]
  exact Heap.get?_push_of_some _ e
end
section
variable {K : PySem.W.Frag} {H : Hp} {Q : VK} {a : Addr} {xs : List Str}
theorem s_sortS (h : SqA K H a (xs.map V.str)) (l : xs.length < 64) (q : ∀ (ys : List Str) p H', ys.Perm xs → sortedS ys = true → Ex H H' → H' p = some (.lst (ys.map V.str)) → Q (.ref p) H') : rSortedTS K [V.ref a] H Q :=
  ⟨a, xs, rfl, h, l, fun ys p hp hs hn => q ys p _ hp hs (exN hn) upd_same⟩
end
/-! two sorted rows of the same texts are one -/
theorem rising_pw : ∀ (p : Str) (l : List Str), risingS p l = true → (p :: l).Pairwise (fun a b => a.cps.toList ≤ b.cps.toList)
  | p, [], _ => by simp
  | p, x :: r, h => by
    have h' : (!ltCps x.cps.toList p.cps.toList && risingS x r) = true := h
    rw [Bool.and_eq_true] at h'
    have ih := rising_pw x r h'.2
    have le : p.cps.toList ≤ x.cps.toList := by
      have := h'.1
      rw [ltCps_eq] at this
      exact List.not_lt.mp (by simpa using this)
    refine List.Pairwise.cons (fun y hy => ?_) ih
    rcases List.mem_cons.mp hy with rfl | hy
    · exact le
    · exact List.le_trans le ((List.pairwise_cons.mp ih).1 y hy)
theorem sorted_pw {l : List Str} (h : sortedS l = true) : l.Pairwise (fun a b => a.cps.toList ≤ b.cps.toList) := match l, h with
  | [], _ => .nil
  | p :: r, h => rising_pw p r h
theorem sorted_uniq {xs ys : List Str} (p : xs.Perm ys) (h1 : sortedS xs = true) (h2 : sortedS ys = true) : xs = ys := by
  refine List.Perm.eq_of_pairwise (le := fun a b : Str => a.cps.toList ≤ b.cps.toList) ?_ (sorted_pw h1) (sorted_pw h2) p
  intro a b _ _ h h'
  have e := List.le_antisymm h h'
  cases a; cases b
  exact congrArg Str.mk (Array.toList_inj.mp e)
end Uv

set_option Elab.async false
set_option linter.all false
set_option maxRecDepth 100000
set_option maxHeartbeats 4000000
namespace Uv
open PySem PySem.Spec L2
open PyProof.Rows hiding St
/-! ### a def whose first parameter is no cell: a token is out when its body begins -/
section
variable {M : Model} {A : Around} {E : Value → Shared → Prop} {s : Shared}
theorem newEnvT {scope : Scope} {globals : Addr} {n : Str} {v : Value} {r : List (Str × Value)} {qual : Str} {func : Option Addr} {code : Value} {builtins : Addr} {Q : Env → Shared → Prop}
    (hk : scope.kind = .function) (h1 : scope.names.lookup n = some .local)
    (hkind : ∀ x ∈ r, scope.names.lookup x.1 = some .local ∨ (scope.names.lookup x.1 = some .cell ∧ ((cellsFrom (s.heap.objs.size + 1) scope.names []).lookup x.1).isSome = true))
    (hQ : ∀ env, env = newEnv scope s.heap.objs.size globals (cellsFrom (s.heap.objs.size + 1) scope.names []) qual func code none builtins →
      ∀ s', 1 ≤ s'.toks → InCallC s env.locals (bindL env.kindOf ((n, v) :: r) fun _ => none) env.cells (bindC env.kindOf ((n, v) :: r) fun _ => none) s' → Q env s') :
    wpAny M A (newFunctionEnv scope globals [] ((n, v) :: r) qual func code none builtins) Q E s := by
  simp only [newFunctionEnv, Option.isSome_none, Bool.false_eq_true, if_false]
  refine wpAny_bind (wpAny_alloc ?_)
  refine wpAny_bind (wpAny_layCells _ (fun name kind cells => by cases hkc : kind == NameKind.cell <;> simp [hkc]) _ _ _ _ ?_)
  have ok := cellsFrom_ok scope.names (s.heap.push { cls := .type "frame", data := .dict #[] }) (s.heap.objs.size + 1) [] ⟨fun _ _ hm => (nomatch hm), List.Pairwise.nil⟩ (by rw [Heap.size_push]; exact Nat.le_refl _)
  rw [Heap.size_push] at ok
  rw [show ({ s with heap := s.heap.push { cls := .type "frame", data := .dict #[] } } : Shared).heap.objs.size = s.heap.objs.size + 1 from Heap.size_push ..]
  have x0 : InCallC s s.heap.objs.size (fun _ => none) (cellsFrom (s.heap.objs.size + 1) scope.names []) (fun _ => none) ({ s with heap := pushCells (s.heap.push { cls := .type "frame", data := .dict #[] }) scope.names } : Shared) :=
    ⟨⟨⟨_, _, rfl⟩, (Heap.Ns.new s.heap (.type "frame")).keeps (pushCells_keeps _ _), fun b o e => pushCells_keeps _ _ b o (Heap.get?_push_of_some _ e), Nat.le_refl _⟩,
      fun n c hc => (ok.empty n c (mem_of_lookup hc)).1, ok.apart, fun n c hm => (ok.empty n c hm).2⟩
  generalize ({ s with heap := pushCells (s.heap.push { cls := .type "frame", data := .dict #[] }) scope.names } : Shared) = s0 at x0 ⊢
  let env : Env := newEnv scope s.heap.objs.size globals (cellsFrom (s.heap.objs.size + 1) scope.names []) qual func code none builtins
  have hl : env.kindOf n = some .local := h1
  rw [List.forIn_cons]
  refine wpAny_bind (wpAny_bind ?_)
  refine wpAny_bind ?_
  refine wpAny_storeName_local (env := env) hl x0.toInCall.ns (fun h' hn' hs' => ?_) (by rw [show env.scope.kind = .function from hk]; rfl)
  have x1 : InCallC s env.locals (fun y => if y = n then some v else none) env.cells (fun _ => none) ({ s0 with heap := h', toks := s0.toks + 1 } : Shared) := by
    refine ⟨⟨?_, hn', fun b o e => ?_, x0.toInCall.fresh⟩, fun k c hc => ?_, x0.apart, x0.above⟩
    · obtain ⟨h₁, tk, rfl⟩ := x0.toInCall.same
      exact ⟨h', _, rfl⟩
    · exact hs'.extBut b o (Nat.ne_of_lt (Nat.lt_of_lt_of_le (Heap.lt_size e) x0.toInCall.fresh)) (x0.toInCall.keep b o e)
    · exact (x0.cell k c hc).sameBut hs' (Nat.ne_of_gt (x0.above k c (mem_of_lookup hc)))
  refine wpAny_pure ?_
  have ht : 1 ≤ ({ s0 with heap := h', toks := s0.toks + 1 } : Shared).toks := Nat.le_add_left _ _
  generalize ({ s0 with heap := h', toks := s0.toks + 1 } : Shared) = s1 at x1 ht
  refine wpAny_mono (wpAny_toks_of ht (wpAny_bindParams (s₀ := s) (env := env) _ (fun _ _ _ => rfl) hk r _ (fun _ => none) s1 (fun _ s' => InCallC s env.locals (bindL env.kindOf ((n, v) :: r) fun _ => none) env.cells (bindC env.kindOf ((n, v) :: r) fun _ => none) s') x1 hkind (fun s' x => ?_))) (fun u s' ⟨k, x⟩ => wpAny_pure (hQ env rfl s' k x)) fun _ _ z => z.2
  unfold bindL bindC
  rw [if_pos hl, if_pos hl]
  exact x
end
section
variable {P : Program} {w : World} {K : PySem.W.Frag} {mg : Str → Option Value} {base : Heap} {x qual : Str} {params : Arguments} {body : List Stmt} {scope : Scope} {dvs : List V} {kws : List (Str × V)} {f : Addr} {fd : FuncData}
theorem fngT {N ps : List Str} {p0 : Str} {k : Nat} {sp : Sp} (h0 : scope.names.lookup p0 = some .local) (F : FunD K x qual params body scope dvs kws f fd) (S : FnScope N (p0 :: ps) scope) (len : ∀ vs H Q E, sp vs H Q E → vs.length = (p0 :: ps).length)
    (hbody : ∀ (cdv : Value) (A : Around) (outer : List Env) (s : Shared) (H : Hp) (vs : List V) (Q : VK) (E : XK), Room k (A.deeper (envOfC qual scope s.heap.objs.size f cdv)) → (A.deeper (envOfC qual scope s.heap.objs.size f cdv)).guards = some [] → sp vs H Q E →
      ∃ t, PSsT (cxOf (L2.CX P w) P w K mg base N qual scope f cdv A outer s H E) body t ∧ t { nx := fun _ H' => Q .non H', rt := Q } (start N vs) H) : FnG P w K mg base (k + 1) f fd (p0 :: ps) sp := by
  obtain ⟨oc, od, dV, kV, doc, pm, an, cdv, ct, osl, rfl, lk, hcd, _, _⟩ := F.ex
  refine ⟨len, fun A outer s H args us vs Q E hr hgd e0 hb r hsp => ?_⟩
  have hl := len _ _ _ _ hsp
  have KX : K.In s.heap := e0.mod.kin.keeps fun b o e => (e0.bs b o e).1
  have lim : s.heap.NoLimit := e0.mod.nolimit.keeps fun b o e => (e0.bs b o e).1
  have kinds : ∀ y ∈ (p0 :: ps).zip us, scope.names.lookup y.1 = some .local ∨ (scope.names.lookup y.1 = some .cell ∧ ((cellsFrom (s.heap.objs.size + 1) scope.names []).lookup y.1).isSome = true) := fun ⟨n, v⟩ hy => by
    rcases S.par n (List.of_mem_zip hy).1 with q | q
    · exact .inl q
    · exact .inr ⟨q, PySem.W.cellsFrom_some _ _ _ (.inl q)⟩
  obtain ⟨u0, us, rfl⟩ : ∃ u0 us', us = u0 :: us' := by
    have := r.length.symm.trans hl
    match us, this with
    | u :: us', _ => exact ⟨u, us', rfl⟩
  refine codeAny_call_function hr.depth (KX _ _ lk) rfl S.co S.gen rfl (PySem.W.codeRec_of KX hcd) (hb _ _ _ _ ?_)
  rw [List.zip_cons_cons] at kinds ⊢
  refine newEnvT S.kind h0 (fun y hy => kinds y (List.mem_cons_of_mem _ hy)) fun env he s1 tk z => ?_
  subst he
  refine ⟨lim.keeps z.toInCall.keep, codeAny_func ?_⟩
  obtain ⟨t, ht, hq⟩ := hbody cdv A outer s H vs Q E (hr.deeper _) hgd hsp
  have I : Inv (cxOf (L2.CX P w) P w K mg base N qual scope f cdv A outer s H E) [] (start N vs) H s1 := inv_start S hr.hd e0 hl r z
  refine wpAny_mono (ht [] s1 (start N vs) H _ tk I hq) (fun fl s' hs => ?_) fun e s' hs => hs
  have fin : ∀ {σ' : L2.St} {H' : Hp} {v : V} {u : Value}, Inv (cxOf (L2.CX P w) P w K mg base N qual scope f cdv A outer s H E) [] σ' H' s' → RelV v u → Q v H' → CE outer P w H s Q u s' :=
    fun {σ' H' v u} J rv q => ⟨v, H', J.os, J.bare, J.base, J.hok, rv, q⟩
  match fl, hs with
  | .ret u, hs => obtain ⟨v, σ', H', J, rv, q⟩ := hs; exact fin J rv q
  | .next, hs => obtain ⟨σ', H', J, q⟩ := hs; exact fin (v := V.non) (u := Value.none) J rfl q
  | .brk, hs => obtain ⟨_, _, _, q⟩ := hs; exact q.elim
  | .cont, hs => obtain ⟨_, _, _, q⟩ := hs; exact q.elim
end
end Uv

set_option Elab.async false
set_option linter.all false
set_option maxRecDepth 100000
set_option maxHeartbeats 4000000
namespace Uv
open PySem PySem.Spec L2
open PyProof.Rows hiding St
/-! ### comprehensions that collect: each element has P, which stands when lists change -/
def ImP (P : Nat → V → Hp → Prop) : Prop := ∀ j v H1 H2, Im H1 H2 → P j v H1 → P j v H2
theorem imp_pure {P : Nat → V → Prop} : ImP fun j v _ => P j v := fun _ _ _ _ _ h => h
/-- one element: the block from its start on -/
def ColB (g : TG) (te : TE) (vs : List Nat) (σ : L2.St) (x : V) (H' : Hp) (C : V → Hp → Prop) : Prop := g x (wipe σ vs) H' fun σ2 H3 => wipe σ2 vs = wipe σ vs ∧ te σ2 H3 C
theorem col_step {P : Nat → V → Hp → Prop} (mono : ImP P) {H H' H5 : Hp} {D : Addr} {acc : List V} {i : Nat} {y : V} (im : Im H' H5) (hD : H5 D = some (.lst acc)) (al : acc.length = i) (ps : ∀ (j : Nat) (v : V), acc[j]? = some v → P j v H') (py : P i y H5) :
    (acc ++ [y]).length = i + 1 ∧ ∀ (j : Nat) (v : V), (acc ++ [y])[j]? = some v → P j v (upd H5 D (.lst (acc ++ [y]))) := by
  have m5 : Im H5 (upd H5 D (.lst (acc ++ [y]))) := im_mut (.inl ⟨_, hD⟩)
  refine ⟨by rw [List.length_append, al]; rfl, fun j v h => ?_⟩
  by_cases c : j < acc.length
  · rw [List.getElem?_append_left c] at h
    exact mono _ _ _ _ (im.tr m5) (ps j v h)
  · have jl := (List.getElem?_eq_some_iff.mp h).1
    rw [List.length_append] at jl
    have jj : j = acc.length := by
      have : ([y] : List V).length = 1 := rfl
      omega
    subst jj
    rw [List.getElem?_append_right (Nat.le_refl _), Nat.sub_self] at h
    cases h
    rw [al]
    exact mono _ _ _ _ m5 py
section
variable {σ : L2.St} {H : Hp} {K : PySem.W.Frag} {g : TG} {te : TE} {vs : List Nat} {Q : VK}
theorem lcC {p : Addr} {xs : List V} (hp : SqL K H p xs) (len : xs.length ≤ 1000000) (P : Nat → V → Hp → Prop) (mono : ImP P)
    (fin : ∀ D ys H', Ex H H' → H' D = some (.lst ys) → ys.length = xs.length → (∀ (j : Nat) (v : V), ys[j]? = some v → P j v H') → Q (.ref D) H')
    (step : ∀ (C : V → Hp → Prop) i x H', xs[i]? = some x → Ex H H' → (∀ y H'', Ex H' H'' → P i y H'' → C y H'') → ColB g te vs σ x H' C) :
    ∃ a, V.ref p = V.ref a ∧ (∃ xs, SqL K H a xs) ∧ LcR (Itl K a) g tYes te vs Q σ H := by
  refine lcL hp (fun D i acc H' => Ex H H' ∧ H' D = some (.lst acc) ∧ acc.length = i ∧ ∀ (j : Nat) (v : V), acc[j]? = some v → P j v H') (fun D n => ⟨exN n, upd_same, rfl, fun j v h => by simp at h⟩) (fun D i acc H' h => h.1) ?_ ?_
  · rintro D acc H' nD ⟨e, hD, al, ps⟩
    exact fin D acc H' e hD al ps
  · rintro D i x acc H' nD hx ⟨e, hD, al, ps⟩
    have il := (List.getElem?_eq_some_iff.mp hx).1
    refine step _ i x H' hx e fun y H5 e5 py => ?_
    have r := col_step (H := H) mono e5.im (e5 _ _ hD) al ps py
    exact ⟨acc, e5 _ _ hD, by rw [al]; show i < 16777216; omega, acc ++ [y], ex_put nD (e.tr e5), upd_same, r.1, r.2⟩
theorem lcCR {lo : Int} {n : Nat} (len : n ≤ 1000000) (P : Nat → V → Hp → Prop) (mono : ImP P)
    (fin : ∀ D ys H', Ex H H' → H' D = some (.lst ys) → ys.length = n → (∀ (j : Nat) (v : V), ys[j]? = some v → P j v H') → Q (.ref D) H')
    (step : ∀ (C : V → Hp → Prop) i H', i < n → Ex H H' → (∀ y H'', Ex H' H'' → P i y H'' → C y H'') → ColB g te vs σ (.int (lo + i)) H' C) :
    LcR (Itr lo n) g tYes te vs Q σ H := by
  refine lcRng (fun D i acc H' => Ex H H' ∧ H' D = some (.lst acc) ∧ acc.length = i ∧ ∀ (j : Nat) (v : V), acc[j]? = some v → P j v H') (fun D n => ⟨exN n, upd_same, rfl, fun j v h => by simp at h⟩) ?_ ?_
  · rintro D acc H' nD ⟨e, hD, al, ps⟩
    exact fin D acc H' e hD al ps
  · rintro D i acc H' nD il ⟨e, hD, al, ps⟩
    refine step _ i H' il e fun y H5 e5 py => ?_
    have r := col_step (H := H) mono e5.im (e5 _ _ hD) al ps py
    exact ⟨acc, e5 _ _ hD, by rw [al]; show i < 16777216; omega, acc ++ [y], ex_put nD (e.tr e5), upd_same, r.1, r.2⟩
/-- over a list or a tuple -/
theorem lcCA {p : Addr} {xs : List V} (hp : SqA K H p xs) (len : xs.length ≤ 1000000) (P : Nat → V → Hp → Prop) (mono : ImP P)
    (fin : ∀ D ys H', Ex H H' → H' D = some (.lst ys) → ys.length = xs.length → (∀ (j : Nat) (v : V), ys[j]? = some v → P j v H') → Q (.ref D) H')
    (step : ∀ (C : V → Hp → Prop) i x H', xs[i]? = some x → Ex H H' → (∀ y H'', Ex H' H'' → P i y H'' → C y H'') → ColB g te vs σ x H' C) :
    ∃ a, V.ref p = V.ref a ∧ ((∃ xs, SqL K H a xs) ∧ LcR (Itl K a) g tYes te vs Q σ H ∨ (∃ xs, SqT K H a xs) ∧ LcR (Itt K a) g tYes te vs Q σ H) := by
  refine lcA hp (fun D i acc H' => Ex H H' ∧ H' D = some (.lst acc) ∧ acc.length = i ∧ ∀ (j : Nat) (v : V), acc[j]? = some v → P j v H') (fun D n => ⟨exN n, upd_same, rfl, fun j v h => by simp at h⟩) (fun D i acc H' n h => h.1.kx) ?_ ?_
  · rintro D acc H' nD ⟨e, hD, al, ps⟩
    exact fin D acc H' e hD al ps
  · rintro D i x acc H' nD hx ⟨e, hD, al, ps⟩
    have il := (List.getElem?_eq_some_iff.mp hx).1
    refine step _ i x H' hx e fun y H5 e5 py => ?_
    have r := col_step (H := H) mono e5.im (e5 _ _ hD) al ps py
    exact ⟨acc, e5 _ _ hD, by rw [al]; show i < 16777216; omega, acc ++ [y], ex_put nD (e.tr e5), upd_same, r.1, r.2⟩
/-- with draws -/
theorem lcCB {p b : Addr} {xs : List V} (hb : BagAt H b) (hp : SqL K H p xs) (len : xs.length ≤ 1000000) (P : Nat → V → Hp → Prop) (mono : ImP P)
    (fin : ∀ D ys H', Kb b H H' → H' D = some (.lst ys) → H D = none → ys.length = xs.length → (∀ (j : Nat) (v : V), ys[j]? = some v → P j v H') → Q (.ref D) H')
    (step : ∀ (C : V → Hp → Prop) i x H', xs[i]? = some x → Kb b H H' → (∀ y H'', Kb b H' H'' → P i y H'' → C y H'') → ColB g te vs σ x H' C) :
    ∃ a, V.ref p = V.ref a ∧ ((∃ xs, SqL K H a xs) ∧ LcR (Itl K a) g tYes te vs Q σ H ∨ (∃ xs, SqT K H a xs) ∧ LcR (Itt K a) g tYes te vs Q σ H) := by
  refine lcA (.inl hp) (fun D i acc H' => Kb b H H' ∧ H' D = some (.lst acc) ∧ acc.length = i ∧ ∀ (j : Nat) (v : V), acc[j]? = some v → P j v H') (fun D n => ⟨(Kb.refl hb).put n _, upd_same, rfl, fun j v h => by simp at h⟩) (fun D i acc H' n h => h.1.kx) ?_ ?_
  · rintro D acc H' nD ⟨e, hD, al, ps⟩
    exact fin D acc H' e hD nD al ps
  · rintro D i x acc H' nD hx ⟨e, hD, al, ps⟩
    have il := (List.getElem?_eq_some_iff.mp hx).1
    refine step _ i x H' hx e fun y H5 e5 py => ?_
    have hD5 := e5.at hD (fun _ z => by cases z)
    have r := col_step (H := H) mono e5.im hD5 al ps py
    exact ⟨acc, hD5, by rw [al]; show i < 16777216; omega, acc ++ [y], (e.tr e5).put nD _, upd_same, r.1, r.2⟩
theorem lcCBR {b : Addr} {lo : Int} {n : Nat} (hb : BagAt H b) (len : n ≤ 1000000) (P : Nat → V → Hp → Prop) (mono : ImP P)
    (fin : ∀ D ys H', Kb b H H' → H' D = some (.lst ys) → H D = none → ys.length = n → (∀ (j : Nat) (v : V), ys[j]? = some v → P j v H') → Q (.ref D) H')
    (step : ∀ (C : V → Hp → Prop) i H', i < n → Kb b H H' → (∀ y H'', Kb b H' H'' → P i y H'' → C y H'') → ColB g te vs σ (.int (lo + i)) H' C) :
    LcR (Itr lo n) g tYes te vs Q σ H := by
  refine lcRng (fun D i acc H' => Kb b H H' ∧ H' D = some (.lst acc) ∧ acc.length = i ∧ ∀ (j : Nat) (v : V), acc[j]? = some v → P j v H') (fun D n => ⟨(Kb.refl hb).put n _, upd_same, rfl, fun j v h => by simp at h⟩) ?_ ?_
  · rintro D acc H' nD ⟨e, hD, al, ps⟩
    exact fin D acc H' e hD nD al ps
  · rintro D i acc H' nD il ⟨e, hD, al, ps⟩
    refine step _ i H' il e fun y H5 e5 py => ?_
    have hD5 := e5.at hD (fun _ z => by cases z)
    have r := col_step (H := H) mono e5.im hD5 al ps py
    exact ⟨acc, hD5, by rw [al]; show i < 16777216; omega, acc ++ [y], (e.tr e5).put nD _, upd_same, r.1, r.2⟩
end
/-- what was collected, where each element is told -/
theorem col_eq {A : Type} {ys : List V} {zs : List A} {f : A → V} (l : ys.length = zs.length) (h : ∀ (j : Nat) (v : V), ys[j]? = some v → ∃ z, zs[j]? = some z ∧ v = f z) : ys = zs.map f := by
  refine List.ext_getElem? fun j => ?_
  rw [List.getElem?_map]
  cases q : ys[j]? with
  | none =>
    have := List.getElem?_eq_none_iff.mp q
    rw [List.getElem?_eq_none_iff.mpr (by omega)]
    rfl
  | some v =>
    obtain ⟨z, hz, rfl⟩ := h j v q
    rw [hz]
    rfl
/-! ### a dict display with keys all unlike -/
theorem valV_none : ∀ {kvs : List (Key × V)} {k : Key}, (∀ p ∈ kvs, p.1 ≠ k) → valV kvs k = none
  | [], k, _ => rfl
  | p :: r, k, h => by
    obtain ⟨a, v⟩ := p
    rw [valV_neg (h _ List.mem_cons_self), valV_none fun q hq => h q (List.mem_cons_of_mem _ hq)]
theorem mergeK_new : ∀ (more kvs : List (Key × V)), (∀ p ∈ more, ∀ q ∈ kvs, q.1 ≠ p.1) → (more.map (·.1)).Nodup → mergeK kvs more = kvs ++ more
  | [], kvs, _, _ => (List.append_nil kvs).symm
  | p :: r, kvs, h, nd => by
    have nd' := List.nodup_cons.mp (show (p.1 :: r.map (·.1)).Nodup from nd)
    show mergeK (putK kvs p.1 p.2) r = _
    rw [putK_new _ (valV_none (h p List.mem_cons_self)), mergeK_new r _ (fun q hq x hx => ?_) nd'.2, List.append_assoc]
    · rfl
    · rcases List.mem_append.mp hx with hx | hx
      · exact h q (List.mem_cons_of_mem _ hq) x hx
      · rw [List.mem_singleton.mp hx]
        exact fun c => nd'.1 (by rw [show p.1 = q.1 from c]; exact List.mem_map_of_mem hq)
theorem mergeK_nil (kvs : List (Key × V)) (nd : (kvs.map (·.1)).Nodup) : mergeK [] kvs = kvs := by
  rw [mergeK_new kvs [] (fun _ _ _ h => by cases h) nd, List.nil_append]
end Uv

set_option Elab.async false
set_option linter.all false
set_option maxRecDepth 100000
set_option maxHeartbeats 4000000
namespace Uv
open PySem PySem.Spec L2
open PyProof.Rows hiding St
/-! ### a < b of data that are alike -/
def uLtD (K : PySem.W.Frag) : V → V → Hp → VK → Prop := fun a b H Q => ∃ da db, Dp K H a da ∧ Dp K H b db ∧ PySem.W.alike da db = true ∧ da ≠ .none ∧ da.depth ≤ 60 ∧ Q (.bl (PySem.W.dataLt da db)) H
theorem op_ltD {X : Cx} (hu : X.A.units + 65 < cLine) : OpR X (compareOp .Lt) (uLtD X.K) := by
  intro pins s σ H x y u v Q I rx ry h
  obtain ⟨da, db, hx, hy, al, nn, dp, q⟩ := h
  obtain ⟨as, ra⟩ := Dp.reads I da _ _ hx rx
  obtain ⟨bs, rb⟩ := Dp.reads I db _ _ hy ry
  exact PySem.W.lt_data ra rb al nn (by have := Nat.min_le_left da.depth db.depth; omega) ⟨.bl _, H, I, rfl, q⟩
theorem op_ltDK {X : Cx} {K : PySem.W.Frag} (e : X.K = K) (hu : X.A.units + 65 < cLine) : OpR X (compareOp .Lt) (uLtD K) := by subst e; exact op_ltD hu
/-! ### sorted of a list of data that are alike -/
def rSortedD (K : PySem.W.Frag) : List V → Hp → VK → Prop := fun vs H Q => ∃ (a : Addr) (ps : List (V × PyData)), vs = [V.ref a] ∧ SqL K H a (ps.map Prod.fst) ∧ (∀ p ∈ ps, Dp K H p.1 p.2) ∧ PySem.W.AllAlike (ps.map Prod.snd) ∧ PySem.W.Sortable (ps.map Prod.snd) ∧ (∀ p ∈ ps, p.2.depth ≤ 50) ∧
  ∀ q, H q = none → Q (.ref q) (upd H q (.lst ((ps.mergeSort (PySem.W.dataLe false Prod.snd)).map Prod.fst)))
theorem vals_each : ∀ {ps : List (V × PyData)} {its : List Value}, Vals (ps.map Prod.fst) its → PySem.W.EachIs (fun v p => RelV p.1 v) its ps
  | [], _, h => by cases h; exact .nil
  | p :: ps, _, h => by
    cases h with
    | cons r t => exact .cons r (vals_each t)
theorem each_vals : ∀ {ps : List (V × PyData)} {its : List Value}, PySem.W.EachIs (fun v p => RelV p.1 v) its ps → Vals (ps.map Prod.fst) its
  | _, _, .nil => .nil
  | _, _, .cons r t => .cons r (each_vals t)
theorem cr_sortedD {X : Cx} (hu : X.A.units + 65 < cLine) : CallR X (.builtin "sorted") (rSortedD X.K) := by
  intro pins s σ H vs us Q I r h
  obtain ⟨a, ps, rfl, hs, hd, al, so, dp, q⟩ := h
  obtain ⟨its, rv, hl, hz⟩ := I.list hs
  obtain ⟨u, rfl, ru⟩ := vals1 r
  obtain rfl : u = Value.ref a := ru
  have er : PySem.W.EachIs (fun v (b : V × PyData) => ∃ as, Reads s.heap v b.2 as) its ps := by
    have e0 := vals_each rv
    have go : ∀ {its : List Value} {ps : List (V × PyData)}, PySem.W.EachIs (fun v p => RelV p.1 v) its ps → (∀ p ∈ ps, Dp X.K H p.1 p.2) → PySem.W.EachIs (fun v (b : V × PyData) => ∃ as, Reads s.heap v b.2 as) its ps := by
      intro its ps e
      induction e with
      | nil => intro _; exact .nil
      | cons r t ih => exact fun h => .cons (Dp.reads I _ _ _ (h _ List.mem_cons_self) r) (ih fun p hp => h p (List.mem_cons_of_mem _ hp))
    exact go e0 hd
  rw [List.length_map] at hz
  refine PySem.W.sorted_data (R := fun v p => RelV p.1 v) (enc := Prod.snd) hl.isList (vals_each rv) er al so hz (fun b hb => by have := dp b hb; omega) fun out hlen eo => ?_
  have rv2 := each_vals eo
  obtain ⟨ep, he'⟩ := PyProof.Rows.sortedAll_at s.heap its out.toArray
  refine ⟨.ref _, upd H (s.heap.objs.size + 1) (.lst ((ps.mergeSort (PySem.W.dataLe false Prod.snd)).map Prod.fst)), I.laid (t' := s.toks) (fun _ _ => PyProof.Rows.sortedAll_old) (Nat.le_succ _) ⟨?_, out, ep, rv2, by simpa using he'⟩, rfl, q _ (I.hok.fresh (Nat.le_succ _))⟩
  rw [List.length_map, List.length_mergeSort]
  exact hz
/-! ### {k: v}: a dict of one pair, with a tuple as its key -/
def tDisp1 (tk tv : TE) : TE := fun σ H Q => ∀ p, H p = none → tk σ (upd H p (.dT [])) fun x H1 => tv σ H1 fun y H2 => ∃ H3, DPut H2 p x y H3 ∧ Q (.ref p) H3
theorem d_dictSet {X : Cx} {pins : List (Addr × Obj)} {σ : L2.St} {H H' : Hp} {s : Shared} {a : Addr} {y v : V} {u r : Value} {A : Around} {E : Value → Shared → Prop} {Q : Unit → Shared → Prop} (hu : A.units + 1 < cLine) (I : Inv X pins σ H s) (g : DPut H a y v H') (ry : RelV y u) (rv : RelV v r) (h : ∀ s', Inv X pins σ H' s' → Q () s') :
    wpAny (model X.prog X.w) A (dictSet a u r) Q E s := by
  rcases g with ⟨kvs, k, e, ey, l, eH⟩ | ⟨kvs, k, b, e, ey, eb, l, eH⟩
  · subst ey eH
    obtain ⟨z, hd, vs, rel, dd⟩ := dk_of I.hok e
    have hz : vs.length ≤ sizeLine := by rw [← rel.length]; exact z
    have hl : (putK kvs k v).length ≤ sizeLine := by have := length_putK kvs k v; omega
    refine wpAny_dictSet_pairs (hsz := hz) (kV_is ry) dd fun h' dd' hs => h _ ?_
    have he : ∃ q, h'.get? a = some q := let ⟨q, _, _, hq, _⟩ := dd'; ⟨q, hq⟩
    exact d_write I (by rw [e]; exact True.intro) hs he (dk_new hl hd (rel.put k rv) dd')
  · subst ey eH
    cases (show u = Value.ref b from ry)
    obtain ⟨z, hd, xs, rel, dd⟩ := dt_of I.hok e
    have hz : xs.length ≤ sizeLine := by rw [← Paired.length rel]; exact z
    have hl : (putK kvs k v).length ≤ sizeLine := by have := length_putK kvs k v; omega
    refine wpAny_dictSet_heap (hsz := hz) (show A.units < cLine by omega) (key_of I.hok eb) dd fun h' dd' hs => h _ ?_
    obtain ⟨q, es, ep, hq, h2, h3, h4, _, h5⟩ := dd'
    refine d_write I (by rw [e]; exact True.intro) hs ⟨q, hq⟩ ⟨hl, hd, _, (rel.put k eb rv).keeps fun c ys ec => ?_, q, es, ep, hq, h2, h3, h4, h5⟩
    rw [upd_ne (ne_of ec e (fun z => nomatch z))]
    exact ec
theorem pe_disp1 {X : Cx} {pos : Pos} {k v : Expr} {tk tv : TE} (hu : X.A.units + 65 < cLine) (hk : PE X k tk) (hv : PE X v tv) : PE X (.Dict [some k] [v] pos) (tDisp1 tk tv) := by
  refine ⟨fun pins s σ H Q I q => ?_⟩
  have hn := I.hok.fresh (Nat.le_refl s.heap.objs.size)
  have I1 := I.laid (a := s.heap.objs.size) (o := .dT []) (h' := s.heap.push { cls := .type "dict", data := .dict #[] }) (t' := s.toks) (fun _ _ q => Heap.get?_push_of_some _ q) (Nat.le_refl _) (dt_empty s.heap I.big)
  rw [arm_eval_Dict, zip_pairTrees [some k] [v] X.env pos rfl rfl, dictDisplay_pairs (pairTrees [some k] [v] X.env pos) (by simp [pairTrees]) (by simp [pairTrees])]
  refine wpAny_bind (wpAny_standAt (wpAny_bind ?_))
  unfold subDict
  refine wpAny_bind (wpAny_alloc ?_)
  refine wpAny_bind (wpAny_holding ?_)
  rw [if_pos (by simp [pairTrees])]
  refine wpAny_bind (pairTrees_cons_walk (thn (hk.run pins _ σ _ _ I1 (q _ hn)) fun u s1 ⟨x, H1, I2, rx, q1⟩ => thn (hv.run pins s1 σ H1 _ I2 q1) fun w2 s2 ⟨y, H2, I3, ry, H3, g, q3⟩ => pairTrees_nil_walk ?_))
  refine wpAny_holding ?_
  rw [List.forIn_cons]
  refine wpAny_bind (wpAny_bind (wpAny_bind (d_dictSet (by omega) I3 g rx ry fun s' I4 => wpAny_pure ?_)))
  dsimp only
  rw [List.forIn_nil]
  exact wpAny_pure (wpAny_pure (wpAny_pure (wpAny_pure ⟨.ref _, H3, I4, rfl, q3⟩)))
theorem s_disp1 {tk tv : TE} {σ : L2.St} {H : Hp} {Q : VK} (h : ∀ p H', Ex H H' → H' p = some (.dT []) → H p = none → tk σ H' fun x H1 => tv σ H1 fun y H2 => ∃ H3, DPut H2 p x y H3 ∧ Q (.ref p) H3) : tDisp1 tk tv σ H Q := fun p n => h p _ (exN n) upd_same n
end Uv

set_option Elab.async false
set_option linter.all false
set_option maxRecDepth 100000
set_option maxHeartbeats 4000000
set_option pp.maxSteps 300
namespace Uv
open PySem PySem.Spec L2
open PyProof.Rows hiding St
/-! ### o(..): an own __call__, o in a slot -/
section
variable {M : Model} {A : Around} {E : Value → Shared → Prop} {s : Shared} {K : PySem.W.Frag} {pos : Pos} {x C dx : Addr} {first : List Value} {Q : Value → Shared → Prop}
theorem callWith_ins {t0 : Sem Value} {ts : List (Bool × Sem Value)} (hplain : ts.any (·.1) = false)
    (h : wpAny M A (spliced ((false, t0) :: ts)) (fun us s₁ => (∃ od, PySem.W.InstAt s₁.heap x (PySem.W.instObj C dx) C od) ∧ wpAny M A (call (.ref x) (first ++ us)) Q E s₁) E s) : wpAny M A (callWith pos (.ref x) first ((false, t0) :: ts) []) Q E s := by
  generalize hargs : (false, t0) :: ts = args at h ⊢
  have h2 : wpAny M A (evalArgs (.ref x) true args []) (fun a s₁ => (∃ od, PySem.W.InstAt s₁.heap x (PySem.W.instObj C dx) C od) ∧ wpAny M A (call (.ref x) (first ++ a.pos) a.kw) Q E s₁) E s := by
    subst hargs
    exact Calls.evalArgs_plain h
  unfold callWith
  refine wpAny_bind (wpAny_holding (wpAny_mono h2 (fun a s₁ h₁ => wpAny_bind (wpAny_standAt ?_)) fun _ _ y => y))
  obtain ⟨⟨od, I⟩, h₁⟩ := h₁
  have L := PySem.W.kco_keeper (M := M) I rfl
  have hp : (args.any (·.1) || ([] : List (Option Str × Sem Value)).any (·.1.isNone)) = false := by
    subst hargs
    show ((false || ts.any (·.1)) || false) = false
    rw [hplain]
    rfl
  simp only [hp]
  refine wpAny_bind (L.here ?_)
  have tail : ∀ {t : Sem Value}, wpAny M A t Q E s₁ → wpAny M A (t >>= fun r => holding [r] point >>= fun _ => pure r) Q E s₁ :=
    fun ht => wpAny_bind (wpAny_mono ht (fun r s₂ hr => wpAny_bind (wpAny_holding (wpAny_point (wpAny_pure hr)))) fun _ _ y => y)
  exact tail (wpAny_operateT h₁)
end
def uCallO (C : Addr) (i : Nat) (sp : Sp) (E : L2.St → XK) (t : TA) : TE := fun σ H Q => ∃ a dx, σ[i]? = some (some (.ref a)) ∧ t σ H fun vs H1 => ∃ fs, H1 a = some (.ins C dx fs) ∧ sp (.ref a :: vs) H1 Q (E σ)
theorem pe_callO {X : Cx} {k i : Nat} {C : Addr} {ps : List Str} {sp : Sp} {E : L2.St → XK} {x : Str} {p pos : Pos} {e : Expr} {es : List Expr} {t : TA} (c : CalM X.prog X.w X.K X.mg X.base k C "__call__" ps sp) (fi : ∀ f, Meth X.K C "__call__" f → PySem.W.fnIn X.K f = true) (hr : Rm (k + 1) X.A)
    (hx : ∀ σ, PassesAt (L2.CX X.prog X.w) X σ (E σ)) (hN : X.N[i]? = some x) (hv : Vis X.env.scope x) (ha : PA X (e :: es) t)
    (hdb : (x == ("__debug__" : Str)) = false := by decide) (hcd : (x == ("__classdict__" : Str)) = false := by decide)
    (he : starEach (e :: es) X.env = (false, eval e X.env) :: starEach es X.env := by rfl) (hpl : (backTo pos (starEach es X.env)).any (·.1) = false := by rfl) : PE X (.Call (.Name x p) (e :: es) [] pos) (uCallO C i sp E t) := by
  obtain ⟨cl, f, fd, F, hm, hbd⟩ := c
  refine ⟨fun pins s σ H Q I h => ?_⟩
  obtain ⟨a, dx, hs, ht⟩ := h
  refine wpAny_Call_Name_kw (thn ((pe_var (pos := p) hN hv hdb hcd).run pins s σ H (fun v H1 => v = .ref a ∧ H1 = H) I ⟨.ref a, hs, rfl, rfl⟩) fun u s1 ⟨v, H1, I1, r1, q1⟩ => ?_)
  obtain ⟨rfl, rfl⟩ := q1
  cases r1
  have hz := ha.run pos pins s1 σ _ _ I1 ht
  rw [he] at hz ⊢
  refine callWith_ins (C := C) (dx := dx) hpl (thn hz fun us s2 hw => ?_)
  obtain ⟨vs, H2, I2, r, fs, ea, q⟩ := hw
  obtain ⟨mA, J, _⟩ := ins_get I2.hok ea
  obtain ⟨od, J, _⟩ := J.look
  refine ⟨⟨_, J⟩, ?_⟩
  have rr : Vals (V.ref a :: vs) (Value.ref a :: us) := .cons rfl r
  have ll : (Value.ref a :: us).length = ps.length := rr.length.symm.trans (F.len _ _ _ _ q)
  refine wpAny_call (PySem.W.kco_code I2.kIn J rfl hm.at_ hm.fn (fi f hm) (codeAny_mono (F.run X.A X.stack s2 H2 ⟨.ref a :: us, []⟩ (.ref a :: us) (.ref a :: vs) Q (E σ) (hr.mono (Nat.le_succ k)).r hr.g I2.env0 (by have z := hbd s2 (.ref a :: us) I2.kIn (by rw [List.append_nil]; exact ll); rw [List.append_nil] at z; exact z) rr q) fun r s' hq => ?_))
  match r, hq with
  | .error er, hq => exact hx σ pins H2 s2 er s' I2 hq
  | .ok (.ret u), hq => exact I2.after hq
  | .ok .next, hq => exact hq.elim
  | .ok .brk, hq => exact hq.elim
  | .ok .cont, hq => exact hq.elim
/-! ### sorted(d): the keys of a dict with tuple keys, as data -/
def keyD (k : List Key) : PyData := .tuple (k.map fun x => match x with | .inl i => PyData.int i | .inr z => PyData.str z)
theorem key_dp {K : PySem.W.Frag} {H : Hp} {b : Addr} {k : List Key} (h : H b = some (.tup (k.map kV))) : Dp K H (.ref b) (keyD k) := by
  refine .tup (.of h) ?_
  clear h
  induction k with
  | nil => exact .nil
  | cons x r ih =>
    cases x with
    | inl i => exact .cons (.int _) ih
    | inr z => exact .cons (.str _) ih
theorem reads_key {h : Heap} {v : Value} {k : List Key} {as : List Addr} (r : Reads h v (keyD k) as) : as = [] := by
  have all : ∀ (k : List Key) (vs : List Value) (as : List Addr), ReadsAll h vs (k.map fun x => match x with | .inl i => PyData.int i | .inr z => PyData.str z) as → as = [] := by
    intro k
    induction k with
    | nil => intro vs as r; cases r; rfl
    | cons x t ih =>
      intro vs as r
      cases x with
      | inl i => cases r with | cons r1 r2 => cases r1; rw [ih _ _ r2]; rfl
      | inr z => cases r with | cons r1 r2 => cases r1; rw [ih _ _ r2]; rfl
  unfold keyD at r
  cases r with
  | tuple _ _ _ ra => exact all _ _ _ ra
def keyPs (kvs : List (List Key × V)) (bs : List Addr) : List (V × PyData) := (kvs.zip bs).map fun p => (V.ref p.2, keyD p.1.1)
def rSortedK (K : PySem.W.Frag) : List V → Hp → VK → Prop := fun vs H Q => ∃ d kvs, vs = [V.ref d] ∧ Rd H d (.dT kvs) ∧ PySem.W.AllAlike (kvs.map fun p => keyD p.1) ∧ PySem.W.Sortable (kvs.map fun p => keyD p.1) ∧ (∀ p ∈ kvs, (keyD p.1).depth ≤ 50) ∧
  ∀ q bs, H q = none → IsKeys H kvs bs → Q (.ref q) (upd H q (.lst (((keyPs kvs bs).mergeSort (PySem.W.dataLe false Prod.snd)).map Prod.fst)))
theorem keyPs_snd {H : Hp} : ∀ {kvs : List (List Key × V)} {bs : List Addr}, IsKeys H kvs bs → (keyPs kvs bs).map Prod.snd = kvs.map fun p => keyD p.1
  | _, _, .nil => rfl
  | _, _, .cons h t => by
    have := keyPs_snd t
    unfold keyPs at this ⊢
    rw [List.zip_cons_cons, List.map_cons, List.map_cons, this]
    rfl
theorem keyPs_fst {H : Hp} : ∀ {kvs : List (List Key × V)} {bs : List Addr}, IsKeys H kvs bs → (keyPs kvs bs).map Prod.fst = bs.map V.ref
  | _, _, .nil => rfl
  | _, _, .cons h t => by
    have := keyPs_fst t
    unfold keyPs at this ⊢
    rw [List.zip_cons_cons, List.map_cons, List.map_cons, this]
    rfl
theorem keyPs_dp {K : PySem.W.Frag} {H : Hp} : ∀ {kvs : List (List Key × V)} {bs : List Addr}, IsKeys H kvs bs → ∀ p ∈ keyPs kvs bs, ∃ b k, p = (V.ref b, keyD k) ∧ Dp K H p.1 p.2
  | _, _, .nil, p, m => by cases m
  | _, _, .cons h t, p, m => by
    unfold keyPs at m
    rw [List.zip_cons_cons, List.map_cons] at m
    rcases List.mem_cons.mp m with rfl | m
    · exact ⟨_, _, rfl, key_dp h⟩
    · exact keyPs_dp t p m
theorem cr_sortedK {X : Cx} (hc : X.calm = true) (hu : X.A.units + 65 < cLine) : CallR X (.builtin "sorted") (rSortedK X.K) := by
  intro pins s σ H xs us Q I r h
  obtain ⟨d, kvs, rfl, hd, al, so, dp, q⟩ := h
  obtain ⟨u, rfl, rx⟩ := r.one
  cases rx
  obtain ⟨z, hs, ks, pr, o, es, ep, ho, hx, hdt, he, hn⟩ := (show ObjOk X.prog X.w H s.heap d (.dT kvs) from hd.ok I.hok)
  have l1 : es.size = ks.length := size_of_entries he
  have l2 : kvs.length = ks.length := Paired.length pr
  refine Calls.call_function_entry PyProof.Rows.kind_sorted PyProof.Rows.plain_sorted PyProof.Rows.entry_sorted (PyProof.Rows.args_sorted1 _) ?_
  unfold Builtin.«sorted»
  refine wpAny_bind (m := checkCount "sorted" 1 1 _) (wpAny_pure ?_)
  refine wpAny_bind (PySem.W.kdu_collect (A := X.A.in1) (kdl_raw hs hx hdt) (I.ok.hd hc) ho (by omega) fun h' tk acc' hk it => ?_)
  have hl : acc'.toList.length = ks.length := by rw [Array.length_toList, it.1]; exact l1
  have ea : acc'.toList = ks.map fun x => Value.ref x.2.1 := by
    apply List.ext_getElem?
    intro j
    rw [List.getElem?_map]
    cases hj : acc'.toList[j]? with
    | none =>
      have h1 := List.getElem?_eq_none_iff.mp hj
      rw [List.getElem?_eq_none (by omega)]
      all_goals rfl
    | some v =>
      obtain ⟨en, hen, hv⟩ := it.2 j v (by rw [← Array.getElem?_toList]; exact hj)
      have qe := entry_at he j
      rw [hen] at qe
      cases hb : ks[j]? with
      | none =>
        rw [hb] at qe
        exact nomatch (show some en = none from qe)
      | some b =>
        rw [hb] at qe
        have e2 : en = entryOfKey (tupleKind (mixKind X.prog X.w)) b := Option.some.inj qe
        rw [hv, e2]
        all_goals rfl
  have eb : acc'.toList = (ks.map fun x => x.2.1).map Value.ref := by rw [ea, List.map_map]; all_goals rfl
  have isk := isKeys_of pr
  have rv : Vals ((keyPs kvs (ks.map fun x => x.2.1)).map Prod.fst) acc'.toList := by rw [eb, keyPs_fst isk]; exact vals_refs _
  have snd := keyPs_snd isk
  have I1 : Inv X pins σ H { s with heap := h', toks := tk } := I.kept hk
  refine wpAny_bind (wpAny_newList ?_ (by omega))
  have hoL : (h'.push (seqObj "list" acc'.toList.toArray 0)).get? h'.objs.size = some (seqObj "list" acc'.toList.toArray 0) := Heap.get?_push_size _ rfl
  show wpAny _ _ _ _ _ { s with heap := h'.push (seqObj "list" acc'.toList.toArray 0), toks := tk }
  have e0 := vals_each rv
  have er : PySem.W.EachIs (fun v (b : V × PyData) => ∃ as, Reads (h'.push (seqObj "list" acc'.toList.toArray 0)) v b.2 as ∧ h'.objs.size ∉ as) acc'.toList (keyPs kvs (ks.map fun x => x.2.1)) := by
    have go : ∀ {its : List Value} {ps : List (V × PyData)}, PySem.W.EachIs (fun v p => RelV p.1 v) its ps → (∀ p ∈ ps, ∃ b k, p = (V.ref b, keyD k) ∧ Dp X.K H p.1 p.2) → PySem.W.EachIs (fun v (b : V × PyData) => ∃ as, Reads (h'.push (seqObj "list" acc'.toList.toArray 0)) v b.2 as ∧ h'.objs.size ∉ as) its ps := by
      intro its ps e
      induction e with
      | nil => intro _; exact .nil
      | cons r t ih =>
        intro h
        obtain ⟨b, k, rfl, hp⟩ := h _ List.mem_cons_self
        obtain ⟨as, ra⟩ := Dp.reads I1 _ _ _ hp r
        have as0 := reads_key ra
        subst as0
        exact .cons ⟨[], PyProof.Rows.Reads.keeps (fun b o e => Heap.get?_push_of_some _ e) ra, by simp⟩ (ih fun p hp => h p (List.mem_cons_of_mem _ hp))
    exact go e0 (keyPs_dp isk)
  have pl : (keyPs kvs (ks.map fun x => x.2.1)).length = ks.length := by
    have := congrArg List.length snd
    rw [List.length_map, List.length_map] at this
    omega
  have dps : ∀ b ∈ keyPs kvs (ks.map fun x => x.2.1), b.2.depth ≤ 50 := fun b hb => by
    have m : b.2 ∈ (keyPs kvs (ks.map fun x => x.2.1)).map Prod.snd := List.mem_map_of_mem hb
    rw [snd] at m
    obtain ⟨p, hp, e⟩ := List.mem_map.mp m
    rw [← e]
    exact dp p hp
  refine wpAny_bind (wpAny_holding (PySem.W.list_sort_data (s := { s with heap := h'.push (seqObj "list" acc'.toList.toArray 0), toks := tk }) (R := fun v p => RelV p.1 v) (enc := Prod.snd) hoL e0 er (by rw [snd]; exact al) (by rw [snd]; exact so) (by omega) (fun b hb => by
    have := dps b hb
    show X.A.units + 1 + 1 + b.2.depth < cLine
    omega) fun out hlen eo => ?_))
  have rv2 := each_vals eo
  obtain ⟨e', he'⟩ := PyProof.Rows.sortedHeap_at (vs := acc'.toList) (out := out.toArray) hoL
  have hlen2 : (((keyPs kvs (ks.map fun x => x.2.1)).mergeSort (PySem.W.dataLe false Prod.snd)).map Prod.fst).length ≤ sizeLine := by
    rw [List.length_map, List.length_mergeSort]
    omega
  refine wpAny_pure ⟨_, rfl, .ref h'.objs.size, upd H h'.objs.size (.lst (((keyPs kvs (ks.map fun x => x.2.1)).mergeSort (PySem.W.dataLe false Prod.snd)).map Prod.fst)), I1.laid (t' := tk) (fun b u e => ?_) (Nat.le_refl _)
    (show ObjOk X.prog X.w _ _ _ (.lst _) from ⟨hlen2, out, e', rv2, by simpa using he'⟩), rfl, q _ _ (I1.hok.fresh (Nat.le_refl _)) isk⟩
  have hb : b < h'.objs.size := Heap.lt_size e
  rw [PyProof.Rows.sortedHeap_old (Nat.ne_of_lt hb) (by rw [size_push']; exact Nat.lt_succ_of_lt hb)]
  exact Heap.get?_push_of_some _ e
/-- a way that is not walked -/
theorem pe_off {X : Cx} {e : Expr} : PE X e (fun _ _ _ => False) := ⟨fun _ _ _ _ _ _ h => h.elim⟩
/-- a def that is never asked so -/
theorem fng_none {P : Program} {w : World} {K : PySem.W.Frag} {mg : Str → Option Value} {base : Heap} {k : Nat} {f : Addr} {fd : FuncData} {ps : List Str} {sp : Sp} (h : ∀ vs H Q E, ¬ sp vs H Q E) : FnG P w K mg base k f fd ps sp := ⟨fun vs H Q E x => (h vs H Q E x).elim, fun _ _ _ _ _ _ vs Q E _ _ _ _ _ x => (h vs _ Q E x).elim⟩
/-- C(): a making without arguments, all by defaults -/
theorem pe_mkGd0 {X : Cx} {k : Nat} {C : Addr} {ps : List Str} {sp : Sp} {E : L2.St → XK} {x : Str} {p pos : Pos} {dvs : List V} (c : CalCd X.prog X.w X.K X.mg X.base k x C ps dvs sp) (hr : Rm (k + 1) X.A) (hx : ∀ σ, PassesAt (L2.CX X.prog X.w) X σ (E σ)) (hg : Gl X x := by rfl) (hdb : (x == ("__debug__" : Str)) = false := by decide) : PE X (.Call (.Name x p) [] [] pos) (uMakeD C sp dvs E tNil) := by
  obtain ⟨gl, f, fd, ds, F, M, hb, hd⟩ := c
  exact ⟨fun pins s σ H Q I h => wpAny_Call_Name_kw (ld_glob I hg gl (PySem.W.callWith_K0 I.kIn M.kp (run_mkGd (us := []) (vs := []) M F hr hb hd (hx σ) I .nil h)) hdb)⟩
/-! ### o * t by an own __mul__, t a tuple -/
theorem binop_tup {h₀ : Heap} {L : Addr} {m : Str → Option Value} {A : Around} {E : Value → Shared → Prop} {s : Shared} {K : PySem.W.Frag} {x C f : Addr} {ox : Obj} {od : Option Obj} {prog : Program} {w : World} {b : Value} {Q : Value → Shared → Prop} (F : Fr h₀ L s.heap m) (X₀ : K.In h₀) (I : PySem.W.InstAt s.heap x ox C od) (hb : PySem.W.Looks (model prog w) s.heap (typeOf b) (.type "tuple")) (hc : PySem.W.selfFirst K C = true)
    (hs : PySem.W.findIn K (.ref C) (PySem.dunder (Operator.Mult).info.2) = some (some (.ref f))) (hf : PySem.W.isFn K (.ref f) = true)
    (h : wpAny (model prog w) A (call (.ref f) [.ref x, b]) (PySem.W.CmpBack Q) E s) : wpAny (model prog w) A (binaryOp .Mult (.ref x) b) Q E s := by
  have X := X₀.keeps F.keep
  obtain ⟨cd, hcd, hm⟩ := PySem.W.any_some hc
  obtain ⟨rest, hm⟩ : ∃ rest, cd.mro = .ref C :: rest := by
    cases q : cd.mro with
    | nil => rw [q] at hm; cases hm
    | cons a r => rw [q] at hm; exact ⟨r, by rw [List.head?_cons] at hm; cases (beq_iff_eq.mp hm); rfl⟩
  unfold binaryOp
  refine wpAny_holding (wpAny_bind ?_)
  unfold binaryOp1
  refine wpAny_bind (I.type.here (wpAny_bind (hb.here (wpAny_bind ((PySem.W.fills_K X hcd hm hs).here ?_)))))
  have nq : ((Value.ref C) == (Value.type "tuple")) = false := rfl
  simp only [nq, Bool.false_eq_true, if_false]
  refine wpAny_bind (wpAny_of_eq noFill_tuple_mul ?_)
  simp only [Bool.and_false, Bool.false_eq_true, if_false, Bool.false_and]
  refine wpAny_bind (wpAny_pure ?_)
  simp only [Bool.false_eq_true, if_false, if_true]
  refine wpAny_bind (m := tryMethod (.ref x) _ b) ?_
  unfold tryMethod
  refine wpAny_bind (PySem.W.special_fn X I hs (beq_iff_eq.mp hf) (wpAny_mono h (fun v s' hv => ?_) fun _ _ e => e))
  cases v <;> first | exact hv.elim | exact wpAny_pure (wpAny_pure (wpAny_pure hv))
def uOwnT (K : PySem.W.Frag) (C : Addr) (sp : Sp) (E : L2.St → XK) (ta tb : TE) : TE := fun σ H Q => ta σ H fun x H1 => tb σ H1 fun y H2 => ∃ a dx fs b xs, x = .ref a ∧ y = .ref b ∧ H2 a = some (.ins C dx fs) ∧ SqT K H2 b xs ∧ sp [x, y] H2 Q (E σ)
theorem pe_ownT {X : Cx} {k : Nat} {C : Addr} {ps : List Str} {sp : Sp} {E : L2.St → XK} {pos : Pos} {a b : Expr} {ta tb : TE} (ha : PE X a ta) (hb : PE X b tb) (c : CalM X.prog X.w X.K X.mg X.base k C "__mul__" ps sp) (sf : PySem.W.selfFirst X.K C = true) (hr : Rm k X.A) (hx : ∀ σ, PassesAt (L2.CX X.prog X.w) X σ (E σ)) :
    PE X (.BinOp a .Mult b pos) (uOwnT X.K C sp E ta tb) := by
  obtain ⟨cl, f, fd, F, hm, hbd⟩ := c
  refine ⟨fun pins s σ H Q I h => ?_⟩
  refine wpAny_BinOp (binT ha hb I h fun v u s2 x y H2 I2 rx ry ⟨a, dx, fs, b, xs, ex, ey, ea, eb, q⟩ => ?_)
  subst ex ey
  cases (show v = Value.ref a from rx)
  cases (show u = Value.ref b from ry)
  obtain ⟨mA, J, _⟩ := ins_get I2.hok ea
  obtain ⟨od, J, _⟩ := J.look
  obtain ⟨its, rv, ⟨ob, ho, hc, n, hd⟩, hz⟩ := I2.tuple eb
  obtain ⟨mm, hF⟩ := I2.fr
  have lk : PySem.W.Looks (model X.prog X.w) s2.heap (typeOf (.ref b)) (.type "tuple") := fun A Q E s k q => wpAny_typeOf_ref (k _ _ ho) (by rw [hc]; exact q)
  refine binop_tup hF I2.ok.mod.kin J lk sf hm.at_ hm.fn ?_
  refine wpAny_mono (run_cal (us := [.ref a, .ref b]) (vs := [.ref a, .ref b]) F hr hbd .nil (hx σ) I2 (.cons rfl (.cons rfl .nil)) q) (fun w s' z => ?_) fun _ _ x => x
  obtain ⟨z', H', I', rz, qz⟩ := z
  exact SlX.cmpback rz ⟨z', H', I', rz, qz⟩
theorem s_ownT {K : PySem.W.Frag} {C : Addr} {sp : Sp} {E : L2.St → XK} {ta tb : TE} {σ : L2.St} {H : Hp} {Q : VK} (h : ta σ H fun x H1 => tb σ H1 fun y H2 => ∃ a dx fs b xs, x = .ref a ∧ y = .ref b ∧ H2 a = some (.ins C dx fs) ∧ SqT K H2 b xs ∧ sp [x, y] H2 Q (E σ)) : uOwnT K C sp E ta tb σ H Q := h
end Uv

set_option Elab.async false
set_option linter.all false
set_option maxRecDepth 100000
set_option maxHeartbeats 4000000
namespace Uv
open PySem PySem.Spec L2
open PyProof.Rows hiding St

/-! ### calls within an except suite: what such a def promises -/
structure RoomU (k : Nat) (A : Around) : Prop where
  r : L2H.RoomH k A
theorem RoomU.mono {j k : Nat} {A : Around} (h : RoomU k A) (l : j ≤ k) : RoomU j A := ⟨h.r.mono l⟩
theorem RoomU.un {k : Nat} {A : Around} (h : RoomU k A) : A.units + 16 * k + 200 < cLine := h.r.un
theorem RoomU.units {k : Nat} {A : Around} (h : RoomU k A) : A.units + 64 < cLine := by have := h.r.un; omega
/-- room for k calls while an exception is handled, no repr running -/
structure RmH (k : Nat) (A : Around) : Prop where
  r : RoomU k A
  g : A.guards = some []
theorem RmH.mono {j k : Nat} {A : Around} (h : RmH k A) (l : j ≤ k) : RmH j A := ⟨h.r.mono l, h.g⟩
theorem rmH_of {j k : Nat} {A : Around} {v : Option Value} (h : Rm k A) (l : j ≤ k) : RmH j (A.mark v) := ⟨⟨L2H.RoomH.mono ⟨h.r.dp, h.r.un⟩ l⟩, h.g⟩
structure FnHG (P : Program) (w : World) (K : PySem.W.Frag) (mg : Str → Option Value) (base : Heap) (k : Nat) (f : Addr) (fd : FuncData) (ps : List Str) (sp : Addr → Value → Option Addr → Sp) : Prop where
  len : ∀ a c d vs H Q E, sp a c d vs H Q E → vs.length = ps.length
  run : ∀ (A : Around) (outer : List Env) (s : Shared) (H : Hp) (args : Args) (us : List Value) (vs : List V) (Q : VK) (E : XK) (p : Addr × Obj) (c : Value) (d : Option Addr), L2H.RoomH k A → A.guards = some [] → L2H.PinOk outer H s p → Zc c d p.2 → (∃ z, p.2.data = .fields z) →
    Env0 P w K mg base A outer s H → BindsTo s fd args (ps.zip us) → Vals vs us → sp p.1 c d vs H Q E → codeAny (model P w) A (.call (.ref f) args) (CR (L2.CX P w) outer P w H s Q E) s
abbrev cxU (P : Program) (w : World) (K : PySem.W.Frag) (mg : Str → Option Value) (base : Heap) (N : List Str) (qual : Str) (scope : Scope) (f : Addr) (cd : Value) (A : Around) (outer : List Env) (s : Shared) (H : Hp) (E : XK) (p : Addr × Obj) : Cx := L2H.cxH (L2.CX P w) P w K mg base N qual scope f cd A outer s H E p
section
variable {P : Program} {w : World} {K : PySem.W.Frag} {mg : Str → Option Value} {base : Heap} {x qual : Str} {params : Arguments} {body : List Stmt} {scope : Scope} {dvs : List V} {kws : List (Str × V)} {f : Addr} {fd : FuncData}
/-- THE RULE for such a def -/
theorem fngH {N ps : List Str} {k : Nat} {sp : Addr → Value → Option Addr → Sp} (F : FunD K x qual params body scope dvs kws f fd) (S : FnScope N ps scope) (len : ∀ a c d vs H Q E, sp a c d vs H Q E → vs.length = ps.length)
    (hbody : ∀ (cdv : Value) (A : Around) (outer : List Env) (s : Shared) (H : Hp) (vs : List V) (Q : VK) (E : XK) (p : Addr × Obj) (c : Value) (d : Option Addr), L2H.RoomH k (A.deeper (envOfC qual scope s.heap.objs.size f cdv)) → (A.deeper (envOfC qual scope s.heap.objs.size f cdv)).guards = some [] → Zc c d p.2 → (∃ z, p.2.data = .fields z) → sp p.1 c d vs H Q E →
      ∃ t, PSs (cxU P w K mg base N qual scope f cdv A outer s H E p) body t ∧ t { nx := fun _ H' => Q .non H', rt := Q } (start N vs) H) : FnHG P w K mg base (k + 1) f fd ps sp := by
  obtain ⟨oc, od, dV, kV, doc, pm, an, cdv, ct, osl, rfl, lk, hcd, _, _⟩ := F.ex
  refine ⟨len, fun A outer s H args us vs Q E p c d hr hgd hpin hz hf e0 hb r hsp => ?_⟩
  have ll := len _ _ _ _ _ _ _ hsp
  have KX : K.In s.heap := e0.mod.kin.keeps fun b o e => (e0.bs b o e).1
  have noLim : s.heap.NoLimit := e0.mod.nolimit.keeps fun b o e => (e0.bs b o e).1
  have kinds : ∀ y ∈ ps.zip us, scope.names.lookup y.1 = some .local ∨ (scope.names.lookup y.1 = some .cell ∧ ((cellsFrom (s.heap.objs.size + 1) scope.names []).lookup y.1).isSome = true) := fun ⟨n, v⟩ hy => by
    rcases S.par n (List.of_mem_zip hy).1 with q | q
    · exact .inl q
    · exact .inr ⟨q, PySem.W.cellsFrom_some _ _ _ (.inl q)⟩
  refine codeAny_call_function hr.depth (KX _ _ lk) rfl S.co S.gen rfl (PySem.W.codeRec_of KX hcd) (hb _ _ _ _ ?_)
  refine wpAny_newFunctionEnv_cells S.kind kinds fun env he s1 z => ?_
  subst he
  refine ⟨noLim.keeps z.toInCall.keep, codeAny_func ?_⟩
  obtain ⟨t, ht, hq⟩ := hbody cdv A outer s H vs Q E p c d (hr.deeper _) hgd hz hf hsp
  have I : Inv (cxU P w K mg base N qual scope f cdv A outer s H E p) [] (start N vs) H s1 := L2H.inv_startH S hpin e0 ll r z
  refine wpAny_mono (ht.run [] s1 (start N vs) H _ I hq) (fun fl s' hs => ?_) fun e s' hs => hs
  have fin : ∀ {σ' : L2.St} {H' : Hp} {v : V} {u : Value}, Inv (cxU P w K mg base N qual scope f cdv A outer s H E p) [] σ' H' s' → RelV v u → Q v H' → CE outer P w H s Q u s' :=
    fun {σ' H' v u} J rv q => ⟨v, H', J.os, J.bare, J.base, J.hok, rv, q⟩
  match fl, hs with
  | .ret u, hs => obtain ⟨v, σ', H', J, rv, q⟩ := hs; exact fin J rv q
  | .next, hs => obtain ⟨σ', H', J, q⟩ := hs; exact fin (v := V.non) (u := Value.none) J rfl q
  | .brk, hs => obtain ⟨_, _, _, q⟩ := hs; exact q.elim
  | .cont, hs => obtain ⟨_, _, _, q⟩ := hs; exact q.elim
end
/-- a def that may be called by its name within a suite -/
structure CalH (P : Program) (w : World) (K : PySem.W.Frag) (mg : Str → Option Value) (base : Heap) (k : Nat) (x : Str) (ps : List Str) (sp : Addr → Value → Option Addr → Sp) : Prop where
  ex : ∃ (f : Addr) (fd : FuncData), FnHG P w K mg base k f fd ps sp ∧ mg x = some (.ref f) ∧ PySem.W.keepIn K (.ref f) = true ∧ Binds K fd ps []
/-- the context holds the exception at a, of the class c, with its dict at d -/
structure PinX (X : Cx) (a : Addr) (c : Value) (d : Option Addr) : Prop where
  ex : ∃ oe, (a, oe) ∈ X.pn ∧ Zc c d oe ∧ ∃ z, oe.data = .fields z
section
variable {X : Cx} {a C : Addr} {c : Value} {d : Option Addr} {k : Nat} {f : Addr} {fd : FuncData} {ps : List Str} {sp : Addr → Value → Option Addr → Sp} {E : L2.St → XK} {x n : Str} {p pos : Pos} {e : Expr} {es : List Expr} {t : TA} {te : TE}
theorem run_calH {pins : List (Addr × Obj)} {σ : L2.St} {H : Hp} {s : Shared} {Q : VK} {us : List Value} {vs : List V} (F : FnHG X.prog X.w X.K X.mg X.base k f fd ps sp) (hr : RmH k X.A) (hp : PinX X a c d) (hb : Binds X.K fd ps [])
    (hx : PassesAt (L2.CX X.prog X.w) X σ (E σ)) (I : Inv X pins σ H s) (r : Vals vs us) (h : sp a c d vs H Q (E σ)) : wpAny (model X.prog X.w) X.A (call (.ref f) us) (EP X pins σ Q) X.xe s := by
  obtain ⟨oe, hm, hz, hf⟩ := hp.ex
  have ll : us.length = ps.length := r.length.symm.trans (F.len _ _ _ _ _ _ _ h)
  have bb := hb s us I.kIn (by rw [List.append_nil]; exact ll)
  rw [List.append_nil] at bb
  obtain ⟨p1, p2, p3, p4, p5⟩ := I.pin (a, oe) (List.mem_append_left _ hm)
  have pk : L2H.PinOk X.stack H s (a, oe) := ⟨p1, p2, fun hm => (List.mem_cons.mp (I.stkSub a hm)).elim p3 p4, p5⟩
  refine wpAny_call (codeAny_mono (F.run X.A X.stack s H ⟨us, []⟩ us vs Q (E σ) (a, oe) c d hr.r.r hr.g pk hz hf I.env0 bb r h) fun q s' hq => ?_)
  match q, hq with
  | .error er, hq => exact hx pins H s er s' I hq
  | .ok (.ret u), hq => exact I.after hq
  | .ok .next, hq => exact hq.elim
  | .ok .brk, hq => exact hq.elim
  | .ok .cont, hq => exact hq.elim
/-- f(e, ..) within a suite -/
theorem pe_cH (cl : CalH X.prog X.w X.K X.mg X.base k x ps sp) (hr : RmH k X.A) (hp : PinX X a c d) (hx : ∀ σ, PassesAt (L2.CX X.prog X.w) X σ (E σ)) (ha : PA X (e :: es) t) (hg : Gl X x := by rfl) (hdb : (x == ("__debug__" : Str)) = false := by decide)
    (he : starEach (e :: es) X.env = (false, eval e X.env) :: starEach es X.env := by rfl) (hpl : (backTo pos (starEach es X.env)).any (·.1) = false := by rfl) : PE X (.Call (.Name x p) (e :: es) [] pos) (uCall (sp a c d) [] E t) := by
  obtain ⟨f, fd, F, hm, hk, hb⟩ := cl.ex
  refine ⟨fun pins s σ H Q I h => wpAny_Call_Name_kw (ld_glob I hg hm (PySem.W.callWith_K (h₀ := X.base) I.ok.mod.kin hk (thn (ha.run pos pins s σ H _ I h) fun us s1 z => ?_) he hpl) hdb)⟩
  obtain ⟨vs, H1, I1, r, q⟩ := z
  rw [List.append_nil] at q
  exact ⟨I1.kIn, run_calH F hr hp hb (hx σ) I1 r q⟩
/-- e.n, e the exception that the context holds -/
theorem pe_xfP (T : XfC X.K C) (hno : PySem.W.findIn X.K (.ref C) n = some none) (hp : PinX X a c d) (he : PE X e te) (hb : attributeBase e n X.env (eval e X.env) = eval e X.env := by rfl) : PE X (.Attribute e n pos) (tXf a c d C n te) := by
  obtain ⟨oe, hm, hz, z, hd⟩ := hp.ex
  refine ⟨fun pins s σ H Q I h => attr_of hb (thn (he.run pins s σ H _ I h) fun u s1 hh => ?_)⟩
  obtain ⟨y, H1, I1, ry, rfl, rfl, dd, fs, v, rfl, hdd, l, q⟩ := hh
  cases (show u = Value.ref a from ry)
  have hget := (I1.pin (a, oe) (List.mem_append_left _ hm)).1
  obtain ⟨mA, hns, rel⟩ := (show ObjOk X.prog X.w H1 s1.heap dd (.xd fs) from I1.hok dd _ hdd)
  obtain ⟨od, hod, look⟩ := lookIn_ns hns
  obtain ⟨u, hu, ru⟩ := RelO.some_of (v := v) (o := mA n) (by rw [← l]; exact rel n)
  exact HandSPX.exc_get I1.kIn (x := a) (ox := oe) (od := some od) ⟨hget, hz.1, by unfold PySem.W.notCls; rw [hd] <;> rfl, by rw [hz.2]; exact hod⟩ T.ga T.gg T.exC (PySem.W.findObj_own T.hdC hno rfl (by rw [look, hu])) (handed_of ru) ⟨v, H1, I1.tok _, ru, q⟩
/-- isinstance(e, c) -/
theorem call_isP (hp : PinX X a c d) : CallR X (.builtin "isinstance") (rIsX X.K a c d) := by
  obtain ⟨oe, hm, hz, hf⟩ := hp.ex
  intro pins s σ H xs us Q I r h
  obtain ⟨D, dd, fs, rfl, rfl, hdd, C, h⟩ := h
  have hget := (I.pin (a, oe) (List.mem_append_left _ hm)).1
  obtain ⟨vs, hv⟩ := hf
  obtain ⟨mA, hns, _⟩ := (show ObjOk X.prog X.w H s.heap dd (.xd fs) from I.hok dd _ hdd)
  obtain ⟨od, es, ep, hod, _⟩ := hns
  have J : PySem.W.InstAt s.heap a oe D (some od) := by
    obtain ⟨oc, odd, oda, osl⟩ := oe
    obtain ⟨h1, h2⟩ := hz
    dsimp only at h1 h2 hv
    subst h1 h2 hv
    exact ⟨hget, rfl, rfl, hod⟩
  have KX := Xc.kitx (x := a) (ox := oe) (od := some od) C.hg C.hk C.hs C.hd C.ha C.hn C.ht C.hm
  rcases h with ⟨c, cv, b, rfl, hc, e, q⟩ | ⟨tp, cs, ws, b, rfl, hT, hc, e, q⟩
  · obtain ⟨u1, u2, rfl, r1, r2⟩ := vals2 r
    cases (show u1 = Value.ref a from r1)
    have ec := hc.eq r2
    subst ec
    exact PySem.W.kia_one KX I.kIn J e (fun z => nomatch z) fun tk => ⟨.bl b, H, I.kept (t' := tk) fun _ _ z => z, rfl, q⟩
  · obtain ⟨u1, u2, rfl, r1, r2⟩ := vals2 r
    cases (show u1 = Value.ref a from r1)
    cases (show u2 = Value.ref tp from r2)
    obtain ⟨_, its, rv, o, h1, h2, n, h3⟩ := (show ObjOk X.prog X.w H s.heap tp (.tup cs) from I.hok tp _ hT)
    have e3 := ClsV.all hc rv
    subst e3
    obtain ⟨oc, odd, dt, sl⟩ := o
    simp only at h2 h3
    subst h2 h3
    exact PySem.W.kia_tup KX I.kIn J h1 e (fun z => nomatch z) fun tk => ⟨.bl b, H, I.tok tk, rfl, q⟩
/-- repr of plain data there -/
theorem call_uReprH (hr : RmH k X.A) : CallR X (.builtin "repr") (fun xs H Q => ∃ v y, xs = [v] ∧ (∃ dt, Dp X.K H v dt ∧ dt.showable = true ∧ dt.hasDict = false ∧ dt.depth ≤ 60 ∧ dt.shown.length ≤ sizeLine ∧ y = dt.shown) ∧ Q (.str y) H) := by
  intro pins s σ H xs us Q I r h
  obtain ⟨v, y, rfl, ⟨dt, hp, hs, hnd, hdp, hl, rfl⟩, h⟩ := h
  have hu := hr.r.un
  obtain ⟨u, rfl⟩ : ∃ u, us = [u] := by
    cases r with
    | cons a b => cases b; exact ⟨_, rfl⟩
  have rv : RelV v u := by
    cases r with
    | cons a b => exact a
  have big : ∀ {b : Addr} {as : List Addr}, u = .ref b → Reads s.heap (.ref b) dt as → wpAny (model X.prog X.w) X.A (call (.builtin "repr") [u]) (EP X pins σ Q) X.xe s := fun {b as} e rd => by
    subst e
    exact repr_of_reads' rd hs (fun z => by rw [hnd] at z; cases z) hr.g (by omega) (fun _ _ z => z) (fun h' t tk k => ⟨.str dt.shown, H, I.kept (t' := tk) k, ⟨_, rfl⟩, h⟩) hl
  cases hp with
  | non => cases (show u = .none from rv); exact P.repr_of_none ⟨.str "None", H, I.tok _, ⟨_, rfl⟩, by simpa only [PyData.shown] using h⟩
  | bl b => cases (show u = .bool b from rv); exact P.repr_of_bool ⟨.str _, H, I.tok _, ⟨_, rfl⟩, by cases b <;> simpa only [PyData.shown] using h⟩
  | int i =>
    obtain ⟨t, rfl⟩ := (show ∃ t, u = .int i t from rv)
    exact P.repr_of_int (by simpa [PyData.showable] using hs) ⟨.str _, H, I.tok _, ⟨_, rfl⟩, by simpa only [PyData.shown] using h⟩
  | str x =>
    obtain ⟨t, rfl⟩ := (show ∃ t, u = .str x t from rv)
    exact P.repr_of_str ⟨.str _, H, I.tok _, ⟨_, rfl⟩, by simpa only [PyData.shown] using h⟩ (by simpa only [PyData.shown] using hl)
  | @lst a xs ds hq ha =>
    cases (show u = .ref a from rv)
    obtain ⟨as, rd⟩ := Dp.reads I _ _ _ (.lst hq ha) (show RelV (.ref a) (.ref a) from rfl)
    exact big rfl rd
  | @tup a xs ds hq ha =>
    cases (show u = .ref a from rv)
    obtain ⟨as, rd⟩ := Dp.reads I _ _ _ (.tup hq ha) (show RelV (.ref a) (.ref a) from rfl)
    exact big rfl rd
end
end Uv

set_option Elab.async false
set_option linter.all false
set_option maxRecDepth 100000
set_option maxHeartbeats 4000000
namespace DqE
open PySem PySem.Spec PyProof.Rows
/-! ### == of two dicts whose keys are tuples -/
section
variable {prog : Program} {w : World} {κ : Type} [DecidableEq κ] {knd : HeapKind prog w κ} {A : Around} {E : Value → Shared → Prop} {s : Shared}
/-- one item's == another's -/
def Eqs (prog : Program) (w : World) (A : Around) (s : Shared) (x y : Value) (b : Bool) : Prop := ∀ (E : Value → Shared → Prop) (Q : Bool → Shared → Prop), Q b s → wpAny (model prog w) A (eqBool x y) Q E s
/-- what such a comparison meets, key by key -/
inductive Meet (prog : Program) (w : World) (A : Around) (s : Shared) (yb : List (κ × Addr × Value)) : List (κ × Addr × Value) → Bool → Prop
  | done : Meet prog w A s yb [] true
  | lacks {k : κ} {p : Addr × Value} {r : List (κ × Addr × Value)} (h : ∀ (j : Nat) (q : Addr × Value), yb[j]? ≠ some (k, q)) : Meet prog w A s yb ((k, p) :: r) false
  | both {k : κ} {p q : Addr × Value} {r : List (κ × Addr × Value)} {j : Nat} {e b : Bool} (h : yb[j]? = some (k, q)) (v : Eqs prog w A s p.2 q.2 e) (t : Meet prog w A s yb r b) : Meet prog w A s yb ((k, p) :: r) (e && b)
theorem same_pairs {nm : String} {a b : Addr} {xa yb : List (κ × Addr × Value)} {r : Bool} {Q : Bool → Shared → Prop} (na : (a == sysModules) = false) (nb : (b == sysModules) = false) (da : s.heap.DictOfH knd a xa) (db : s.heap.DictOfH knd b yb) (hu : knd.room A)
    (m : xa.length = yb.length → Meet prog w A s yb xa r) (h : Q (xa.length == yb.length && r) s) : wpAny (model prog w) A (Builtin.Dict.samePairs nm a b) Q E s := by
  obtain ⟨o1, e1, p1, g1, _, d1, t1, k1, _⟩ := da
  obtain ⟨o2, e2, p2, g2, _, d2, t2, k2, n2⟩ := db
  have l1 : e1.size = xa.length := size_of_entries t1
  have l2 : e2.size = yb.length := size_of_entries t2
  rw [← l1, ← l2] at h
  unfold Builtin.Dict.samePairs Builtin.Dict.showsAll
  rw [if_neg (by rw [na]; exact Bool.false_ne_true), if_neg (by rw [nb]; exact Bool.false_ne_true)]
  refine wpAny_bind (wpAny_pure (wpAny_bind (wpAny_pure (wpAny_bind (wpAny_dictEntries g1 d1 ?_)))))
  dsimp only
  refine wpAny_bind (wpAny_dictEntries g2 d2 ?_)
  by_cases hz : e1.size = e2.size
  · have hq : Q r s := by simpa [hz] using h
    have mm := m (by rw [← l1, ← l2]; exact hz)
    rw [if_neg (by rw [hz]; simp)]
    refine wpAny_bind (wpAny_dictEpoch g1 d1 (wpAny_bind ?_))
    rw [Std.Legacy.Range.forIn_eq_forIn_range']
    simp only [Std.Legacy.Range.size, Nat.sub_zero, Nat.add_sub_cancel, Nat.div_one]
    refine wpAny_forIn_list _ (fun rest z s' => s' = s ∧ z = (none, ()) ∧ ∃ i, rest = List.range' i (e1.size - i) ∧ i ≤ e1.size ∧ Meet prog w A s yb (xa.drop i) r) _ ?_ ?_ _ _ ⟨rfl, rfl, 0, by simp, Nat.zero_le _, mm⟩
    · rintro x rest z s' ⟨rfl, rfl, i, hr, hi, hm⟩
      have lt : i < e1.size := by
        by_cases c : i < e1.size
        · exact c
        · rw [show e1.size - i = 0 by omega] at hr
          simp at hr
      have e : e1.size - i = (e1.size - (i + 1)) + 1 := by omega
      rw [e, List.range'_succ] at hr
      injection hr with hx hrest
      subst hx
      obtain ⟨⟨k, p⟩, hk⟩ : ∃ q, xa[x]? = some q := ⟨_, List.getElem?_eq_getElem (by omega)⟩
      have en : e1[x]? = some (entryOfKey knd (k, p)) := by rw [entry_at t1 x, hk]; rfl
      have dr : xa.drop x = (k, p) :: xa.drop (x + 1) := by
        obtain ⟨h1, h2⟩ := List.getElem?_eq_some_iff.mp hk
        rw [List.drop_eq_getElem_cons h1, h2]
      have kp : knd.is s'.heap k p.1 := k1 _ (List.mem_of_getElem? hk)
      refine wpAny_bind (wpAny_dictEntries g1 d1 ?_)
      rw [en]
      rw [dr] at hm
      show wpAny _ _ (holding [Value.ref p.1, p.2] _ >>= _) _ _ _
      refine wpAny_bind (wpAny_holding (wpAny_bind (wpAny_dictFind_heap hu kp g2 d2 t2 k2 n2 (fun no => ?_) (fun j q hj => ?_))))
      · have rf : r = false := by
          cases hm with
          | lacks _ => rfl
          | both hj _ _ => exact absurd hj (no _ _)
        rw [rf] at hq
        refine wpAny_pure ?_
        show wpAny _ _ (if (!false) = true then _ else _) _ _ _
        rw [if_pos (by decide)]
        exact wpAny_pure (wpAny_pure hq)
      · refine wpAny_bind (wpAny_dictEntries g2 d2 ?_)
        have ej : e2[j]? = some (entryOfKey knd (k, q)) := by rw [entry_at t2 j, hj]; rfl
        rw [ej]
        cases hm with
        | lacks no => exact absurd hj (no _ _)
        | @both _ _ q' _ j' e b hj' hv ht =>
          have jj : j' = j := idxH_unique n2 hj' hj
          subst jj
          have qq : q' = q := by
            rw [hj] at hj'
            exact (congrArg Prod.snd (Option.some.inj hj')).symm
          subst qq
          refine wpAny_holding (hv _ _ ?_)
          cases e with
          | false =>
            rw [Bool.false_and] at hq
            show wpAny _ _ (if (!false) = true then _ else _) _ _ _
            rw [if_pos (by decide)]
            exact wpAny_pure (wpAny_pure hq)
          | true =>
            rw [Bool.true_and] at hq ⊢
            show wpAny _ _ (if (!true) = true then _ else _) _ _ _
            rw [if_neg (by decide)]
            refine wpAny_bind (wpAny_dictEpoch g1 d1 ?_)
            rw [if_neg (by simp)]
            exact wpAny_pure ⟨rfl, rfl, x + 1, hrest, lt, ht⟩
    · rintro z s' ⟨rfl, rfl, i, hr, hi, hm⟩
      have e : i = e1.size := by
        by_cases c : i < e1.size
        · rw [show e1.size - i = (e1.size - (i + 1)) + 1 by omega, List.range'_succ] at hr
          cases hr
        · omega
      rw [e, l1, List.drop_length] at hm
      cases hm
      exact wpAny_pure hq
  · rw [if_pos (by simpa using hz)]
    rw [show (e1.size == e2.size) = false by simpa using hz, Bool.false_and] at h
    exact wpAny_bind (wpAny_rule (wpAny_pure h))
theorem rich_eq {a b : Addr} {xa yb : List (κ × Addr × Value)} {r : Bool} {Q : Value → Shared → Prop} (na : (a == sysModules) = false) (nb : (b == sysModules) = false) (da : s.heap.DictOfH knd a xa) (db : s.heap.DictOfH knd b yb) (hu : A.units < cLine) (hr : knd.room A.in1)
    (m : xa.length = yb.length → Meet prog w A.in1 s yb xa r) (h : Q (.bool (xa.length == yb.length && r)) s) : wpAny (model prog w) A (richCompare .Eq (.ref a) (.ref b)) Q E s := by
  refine wpAny_richCompare_same_room (op := .Eq) da.typeIs db.typeIs PySem.F.slot_dict_eq (wpAny_call_entry PySem.F.slot_dict_eq da.typeIs PySem.F.entry_dict_eq ?_ (PySem.F.args_dict_eq_2 _ _)) hu
  refine wpAny_bind (m := Builtin.Dict.dictSlotArgs "__eq__" ⟨[.ref a, .ref b], []⟩) ?_
  unfold Builtin.Dict.dictSlotArgs
  refine wpAny_bind (wpAny_notOrdered_dict da.typeIs (wpAny_pure ?_))
  refine wpAny_bind (wpAny_isInstance (T := "dict") db.typeIs PySem.F.sub_dict_dict ?_)
  simp only [Bool.not_true, Bool.false_eq_true, if_false]
  exact wpAny_bind (wpAny_pure (wpAny_bind (wpAny_pure (wpAny_bind (same_pairs na nb da db hr m (wpAny_pure ⟨_, rfl, (fun x => nomatch x), by simpa using h⟩))))))
end
end DqE
namespace Uv
open PySem PySem.Spec L2
open PyProof.Rows hiding St
/-- what such a comparison meets, by data -/
def HitsT (K : PySem.W.Frag) (H : Hp) (kb : List (List Key × V)) : List (List Key × V) → Bool → Prop
  | [], r => r = true
  | (k, v) :: t, r => (valV kb k = none ∧ r = false) ∨ ∃ u d e b, valV kb k = some u ∧ Dp K H v d ∧ Dp K H u e ∧ SeqAt.shaped d = true ∧ SeqAt.shaped e = true ∧ HitsT K H kb t b ∧ r = (PyData.eqv d e && b)
def rEqT (K : PySem.W.Frag) : R2 := fun x y H Q => ∃ a b ka kb r, x = .ref a ∧ y = .ref b ∧ H a = some (.dT ka) ∧ H b = some (.dT kb) ∧ (ka.length = kb.length → HitsT K H kb ka r) ∧ Q (.bl (decide (ka.length = kb.length) && r)) H
section
variable {X : Cx}
theorem at_pair {K : PySem.W.Frag} {H : Hp} {kb : List (List Key × V)} {yb : List (List Key × Addr × Value)} (p : Paired (fun (p : List Key × V) (q : List Key × Addr × Value) => p.1 = q.1 ∧ H q.2.1 = some (.tup (p.1.map kV)) ∧ RelV p.2 q.2.2) kb yb) (k : List Key) :
    (valV kb k = none → ∀ (j : Nat) (q : Addr × Value), yb[j]? ≠ some (k, q)) ∧ ∀ u, valV kb k = some u → ∃ (j : Nat) (q : Addr × Value), yb[j]? = some (k, q) ∧ RelV u q.2 := by
  induction p with
  | nil => exact ⟨fun _ j q z => (by simp at z), fun u z => (by cases z)⟩
  | @cons a b l1 l2 hab _ ih =>
    obtain ⟨e, _, rv⟩ := hab
    by_cases c : a.1 = k
    · have e1 : valV (a :: l1) k = some a.2 := by
        simp [valV, c]
      rw [e1]
      refine ⟨(fun z => by cases z), fun u z => ⟨0, b.2, ?_, ?_⟩⟩
      · rw [← c, e]
        rfl
      · cases z
        exact rv
    · have e1 : valV (a :: l1) k = valV l1 k := by
        simp [valV, c]
      rw [e1]
      refine ⟨fun z j q hj => ?_, fun u z => ?_⟩
      · cases j with
        | zero =>
          have : b = (k, q) := by simpa using hj
          exact c (e.trans (congrArg Prod.fst this))
        | succ j => exact ih.1 z j q (by simpa using hj)
      · obtain ⟨j, q, hj, rq⟩ := ih.2 u z
        exact ⟨j + 1, q, by simpa using hj, rq⟩
theorem meet_of {pins : List (Addr × Obj)} {σ : L2.St} {H : Hp} {s : Shared} {A : Around} (hu : A.units + 64 < cLine) (I : Inv X pins σ H s) {kb : List (List Key × V)} {yb : List (List Key × Addr × Value)}
    (pb : Paired (fun (p : List Key × V) (q : List Key × Addr × Value) => p.1 = q.1 ∧ H q.2.1 = some (.tup (p.1.map kV)) ∧ RelV p.2 q.2.2) kb yb) : ∀ {ka : List (List Key × V)} {xa : List (List Key × Addr × Value)} {r : Bool},
    Paired (fun (p : List Key × V) (q : List Key × Addr × Value) => p.1 = q.1 ∧ H q.2.1 = some (.tup (p.1.map kV)) ∧ RelV p.2 q.2.2) ka xa → HitsT X.K H kb ka r → DqE.Meet X.prog X.w A s yb xa r
  | [], [], r, _, h => by
    rw [show r = true from h]
    exact .done
  | [], _ :: _, r, hp, h => by cases hp
  | _ :: _, [], r, hp, h => by cases hp
  | (k, v) :: ka, (k', p) :: xa, r, hp, h => by
    obtain ⟨e, rv, t⟩ : k = k' ∧ RelV v p.2 ∧ Paired (fun (p : List Key × V) (q : List Key × Addr × Value) => p.1 = q.1 ∧ H q.2.1 = some (.tup (p.1.map kV)) ∧ RelV p.2 q.2.2) ka xa := by
      cases hp with
      | cons a b => exact ⟨a.1, a.2.2, b⟩
    subst e
    rcases h with ⟨hn, rfl⟩ | ⟨u, d, e', b, hv, hd, he, sd, se, hr, rfl⟩
    · exact .lacks ((at_pair (K := X.K) pb k).1 hn)
    · obtain ⟨j, q, hj, ru⟩ := (at_pair (K := X.K) pb k).2 u hv
      obtain ⟨as, r1⟩ := Dp.reads I d v p.2 hd rv
      obtain ⟨bs, r2⟩ := Dp.reads I e' u q.2 he ru
      exact .both hj (fun E Q hq => PySem.SeqAt.eqBoolOverData X.prog X.w A E s p.2 q.2 d e' as bs Q r1 r2 (SeqAt.canLay_of_shaped sd) (SeqAt.canLay_of_shaped se) (SeqAt.room_of_shaped sd hu) hq) (meet_of hu I pb t hr)
theorem op_eqT (hu : X.A.units + 100 < cLine) : OpR X (compareOp .Eq) (rEqT X.K) := by
  intro pins s σ H x y v u Q I rx ry h
  obtain ⟨a, b, ka, kb, r, rfl, rfl, ha, hb, hm, q⟩ := h
  cases (show v = Value.ref a from rx)
  cases (show u = Value.ref b from ry)
  obtain ⟨za, ya, xa, pa, oa, ea, epa, ga, ca, da, ta, na⟩ := (show ObjOk X.prog X.w H s.heap a (.dT ka) from I.hok a _ ha)
  obtain ⟨zb, yb', xb, pb, ob, eb, epb, gb, cb, db, tb, nb⟩ := (show ObjOk X.prog X.w H s.heap b (.dT kb) from I.hok b _ hb)
  have keys : ∀ {kc : List (List Key × V)} {xc : List (List Key × Addr × Value)}, Paired (fun (p : List Key × V) (q : List Key × Addr × Value) => p.1 = q.1 ∧ H q.2.1 = some (.tup (p.1.map kV)) ∧ RelV p.2 q.2.2) kc xc → ∀ z ∈ xc, (tupleKind (mixKind X.prog X.w)).is s.heap z.1 z.2.1 := by
    intro kc xc pc
    induction pc with
    | nil => intro z hz; cases hz
    | @cons p q l1 l2 hpq _ ih =>
      intro z hz
      rcases List.mem_cons.mp hz with rfl | hz
      · obtain ⟨e, hp, _⟩ := hpq
        rw [← e]
        exact key_of I.hok hp
      · exact ih z hz
  have la : ka.length = xa.length := pa.length
  have lb : kb.length = xb.length := pb.length
  have un : X.A.in1.units = X.A.units + 1 := rfl
  show wpAny _ _ (richCompare .Eq (.ref a) (.ref b)) _ _ _
  refine DqE.rich_eq (knd := tupleKind (mixKind X.prog X.w)) (xa := xa) (yb := xb) (r := r) ya yb' ⟨oa, ea, epa, ga, ca, da, ta, keys pa, na⟩ ⟨ob, eb, epb, gb, cb, db, tb, keys pb, nb⟩ (by omega) (by show X.A.in1.units < cLine; omega)
    (fun l => meet_of (by omega) I pb pa (hm (by omega))) ⟨.bl _, H, I, ?_, q⟩
  show Value.bool _ = Value.bool _
  rw [la, lb]
  by_cases c : xa.length = xb.length <;> simp [c]
theorem s_eqT {K : PySem.W.Frag} {H : Hp} {Q : VK} {a b : Addr} {ka kb : List (List Key × V)} {r : Bool} (ha : H a = some (.dT ka)) (hb : H b = some (.dT kb)) (hm : ka.length = kb.length → HitsT K H kb ka r) (q : Q (.bl (decide (ka.length = kb.length) && r)) H) : rEqT K (.ref a) (.ref b) H Q := ⟨a, b, ka, kb, r, rfl, rfl, ha, hb, hm, q⟩
end
end Uv
namespace Uv
open PySem PySem.Spec L2
open PyProof.Rows hiding St
/-! ### for x in o: o's own __iter__ hands out an iterator of a dict's keys, which are tuples; the body leaves the heap as it is -/
def tForK (C : Addr) (spI : Sp) (te : TE) (g : TG) (tb : TS) : TS := fun D σ H => te σ H fun x H1 => ∃ a dx fs d kvs, x = .ref a ∧ H1 a = some (.ins C dx fs) ∧ H1 d = some (.dT kvs) ∧
  spI [.ref a] H1 (fun v H2 => ∃ it od, v = .ref it ∧ H1 it = none ∧ H2 = upd (upd H1 d (.frz od (.dT kvs))) it (ItKs d od kvs.length it)) E0 ∧
  ∃ S : Nat → L2.St → Prop, S 0 σ ∧ (∀ σ', S kvs.length σ' → D.nx σ' H1) ∧ ∀ i k w σi od b, kvs[i]? = some (k, w) → S i σi → H1 b = some (.tup (k.map kV)) →
    g (.ref b) σi (upd H1 d (.frz od (.dT kvs))) fun σ2 H2 => tb { nx := fun σ' H' => H' = upd H1 d (.frz od (.dT kvs)) ∧ S (i + 1) σ', ct := fun _ _ => False, bk := fun _ _ => False, rt := fun _ _ => False } σ2 H2
theorem ki_obj {h : Heap} {it d : Addr} {i n ep : Nat} (st : h.IsKeyIter it d i n ep) : ∃ (o : Obj) (vs : Array Value), h.get? it = some o ∧ o.cls = .type "dict_keyiterator" ∧ o.data = .fields vs := by
  obtain ⟨o, h1, h2, h3⟩ := st
  exact ⟨o, _, h1, h2, h3⟩
section
variable {X : Cx} {C : Addr} {k : Nat} {psI : List Str} {spI : Sp} {o tg : Expr} {body : List Stmt} {te : TE} {g : TG} {tb : TS} {pos : Pos}
theorem ps_forK (hp : PassesOwn (model X.prog X.w) X.A X.env X.xe) (cI : CalM X.prog X.w X.K X.mg X.base k C "__iter__" psI spI) (hc : X.calm = true) (hr : Rm k X.A) (he : PE X o te) (hg : PG X tg g) (hb : PSs X body tb)
    (hs : ∀ x, foldedSetIterable o X.env x = pure x := by intro _; rfl) : PS X (.For tg o body [] pos) (tForK C spI te g tb) := by
  obtain ⟨_, fi, fdI, FI, mI, bI⟩ := cI
  refine ⟨fun pins s σ H D I h => wpAny_For (thn (he.run pins s σ H _ I h) fun v s1 z => ?_) hs⟩
  obtain ⟨x, H1, I1, rx, a, dx, fs, d, kvs, rfl, ha, hd, hsp, S, S0, Send, step⟩ := z
  cases rx
  obtain ⟨mA, J, _⟩ := ins_get I1.hok ha
  obtain ⟨od', J, _⟩ := J.look
  obtain ⟨m0, hF⟩ := I1.fr
  refine PySem.W.owit_iter hF I1.ok.mod.kin J mI.at_ mI.fn ?_
  refine wpAny_mono (run_calU (us := [.ref a]) (vs := [.ref a]) (A := X.A) rfl FI hr bI I1 (.cons rfl .nil) hsp) (fun u s2 z => ?_) fun e s' y => y.elim
  obtain ⟨v, H2, I2, rv, ⟨it, od, rfl, hi, rfl⟩, fresh⟩ := z
  cases rv
  have hit : upd (upd H1 d (.frz od (.dT kvs))) it (ItKs d od kvs.length it) it = some (ItKs d od kvs.length it) := upd_same
  have hn : it ∈ X.ex ∨ X.s_0.heap.get? it = none := by
    have z := fresh it hi (by rw [hit]; simp)
    by_cases e : it ∈ X.ex
    · exact .inl e
    · refine .inr ?_
      cases y : X.s_0.heap.get? it with
      | none => rfl
      | some o =>
        obtain ⟨o', ho'⟩ := I1.base.there it o y e
        rw [z] at ho'; cases ho'
  obtain ⟨φ, n, gv, e0, tn, lk⟩ := next_k (it := it) (d := d) (od := od) (n := kvs.length)
  have st' : φ s2.heap := by
    have z := (I2.hok it _ hit).1
    cases e0
    exact z
  refine wpAny_specialOf (tn _ st') lk ?_
  obtain ⟨es, ep, hod, st0⟩ := (I2.hok it _ hit).1
  have ne : d ≠ it := fun z => by rw [z, hi] at hd; cases hd
  have hA : offH (upd (upd H1 d (.frz od (.dT kvs))) it (ItKs d od kvs.length it)) it = upd H1 d (.frz od (.dT kvs)) := funext fun b => by
    by_cases hb : b = it
    · rw [hb, offH_same, upd_ne (Ne.symm ne), hi]
    · rw [offH_ne hb, upd_ne hb]
  have fp : FpOk (Cx.plus X it X.A) pins (upd H1 d (.frz od (.dT kvs))) it := by
    have z := fp_plus (A := X.A) I2 hit
    rw [hA] at z
    exact z
  have Ip : Inv (Cx.plus X it X.A) pins σ (upd H1 d (.frz od (.dT kvs))) s2 := by
    have z := inv_off (inv_plus I2 hit (A := X.A) rfl (I2.ok.hd hc)) hit
    rw [hA] at z
    exact z
  have ok' := Ip.ok
  have up : ∀ {σ' : L2.St} {H' : Hp} {s' : Shared}, Inv X pins σ' H' s' → Inv (Cx.plus X it X.A) pins σ' H' s' := fun K => ⟨ok', K.os, K.bare, un_plus K.base, K.loc, K.cell, K.free, K.freeC, K.pin, K.hok, K.len⟩
  have hd2 : upd H1 d (.frz od (.dT kvs)) d = some (.frz od (.dT kvs)) := upd_same
  have nf := I1.nofrz hd True.intro
  have back : upd (upd H1 d (.frz od (.dT kvs))) d (.dT kvs) = H1 := funext fun b => by
    by_cases hb : b = d
    · rw [hb, upd_same, hd]
    · rw [upd_ne hb, upd_ne hb]
  refine codeAny_forLoop_any (fun m s' => ∃ i σ', Inv X pins σ' (upd H1 d (.frz od (.dT kvs))) s' ∧ s'.heap.IsKeyIter it d i kvs.length ep ∧ S i σ' ∧ i ≤ kvs.length ∧ m = kvs.length - i) ?_ kvs.length ⟨0, σ, inv_minus I2.ok Ip hn, st0, S0, Nat.zero_le _, rfl⟩
  rintro m s3 ⟨i, σ3, I3, st3, S3, il, rfl⟩
  by_cases lt : i < kvs.length
  · refine wpAny_passesOwn hp (step_keys (up I3) hod st3 fp hd2 lt fun k2 w b u h' hk ru hb4 I4 st4 => ?_)
    have J4 := inv_minus I3.ok I4 hn
    obtain ⟨oi, vi, hoi, ci, di⟩ := ki_obj st4
    have nb : b ≠ d := fun z => by rw [z, hd2] at hb4; cases hb4
    rw [upd_ne nb] at hb4
    refine go_of (s := { s3 with heap := h' }) hoi ci di (by decide) ?_
    have P4 : Inv X (pins ++ [(it, oi)]) σ3 (upd H1 d (.frz od (.dT kvs))) { s3 with heap := h' } := J4.pins_of fun p hp => by
      rcases List.mem_append.mp hp with q | q
      · exact J4.pin p (List.mem_append_right _ q)
      · rw [List.mem_singleton.mp q]
        exact ⟨hoi, fp.1, fp.2.1, fp.2.2.1, fun v z => by rw [di] at z; cases z⟩
    refine wpAny_passesOwn hp (thn (hg.run _ _ σ3 _ (.ref b) u _ P4 ru (step i k2 w σ3 od b hk S3 hb4)) fun _ s6 z => ?_)
    obtain ⟨σ6, H6, I6, q6⟩ := z
    refine wpAny_passesOwn hp (thn (hb.run _ s6 σ6 H6 _ I6 q6) fun f s7 q7 => ?_)
    cases f with
    | next =>
      obtain ⟨σ7, H7, I7, rfl, S7⟩ := q7
      have gi := (I7.pin (it, oi) (List.mem_append_right _ (List.mem_append_right _ (List.mem_singleton.mpr rfl)))).1
      refine ⟨kvs.length - (i + 1), by omega, i + 1, σ7, I7.unpinned, st4.at fun o' e' => ?_, S7, lt, rfl⟩
      have e3 : oi = o' := Option.some.inj (hoi.symm.trans e')
      rw [← e3]
      exact gi
    | cont => obtain ⟨_, _, _, q7⟩ := q7; exact q7.elim
    | brk => obtain ⟨_, _, _, q7⟩ := q7; exact q7.elim
    | ret u => obtain ⟨_, _, _, _, _, q7⟩ := q7; exact q7.elim
  · have e : i = kvs.length := by omega
    subst e
    refine wpAny_passesOwn hp (stop_keys (up I3) hod st3 fp hd2 (Nat.le_refl _) fun h' I4 => wpAny_execs_nil ?_)
    have J4 := (inv_minus I3.ok I4 hn).unlock hd2 nf
    rw [back] at J4
    exact ⟨σ3, H1, J4, Send _ S3⟩
end
end Uv
namespace Uv
open PySem PySem.Spec L2
open PyProof.Rows hiding St
/-- list(d), d a dict whose keys are tuples -/
def rKeysL : List V → Hp → VK → Prop := fun xs H Q => ∃ d kvs, xs = [V.ref d] ∧ Rd H d (.dT kvs) ∧ ∀ p bs, H p = none → IsKeys H kvs bs → Q (.ref p) (upd H p (.lst (bs.map V.ref)))
theorem call_keysL {X : Cx} (hc : X.calm = true) : CallR X (.type "list") rKeysL := call_list_dT hc
theorem un100 {k : Nat} {A : Around} (r : Room k A) : A.units + 100 < cLine := by have := r.un; omega
end Uv
namespace Uv
open PySem PySem.Spec L2
open PyProof.Rows hiding St
section
variable {X : Cx} {C : Addr} {k : Nat} {ps : List Str} {sp : Sp} {E : L2.St → XK} {a b : Expr} {ta tb : TE} {pos : Pos}
/-- an own == within a comprehension -/
theorem pe_cmpOK {K : PySem.W.Frag} (hK : X.K = K) (ha : PE X a ta) (hb : PE X b tb) (c : CalM X.prog X.w X.K X.mg X.base k C "__eq__" ps sp) (hr : Rm k X.A) (hx : ∀ σ, PassesAt (L2.CX X.prog X.w) X σ (E σ)) (hm : behindInMarks .Eq b = false := by rfl) : PE X (.Compare a [.Eq] [b] pos) (uCmpO K C sp E ta tb) := by
  subst hK
  exact pe_cmpO ha hb c hr hx hm
end
end Uv

set_option Elab.async false
set_option linter.all false
set_option maxRecDepth 100000
set_option maxHeartbeats 4000000
namespace Hk
open PySem PySem.W PySem.Calls PyProof.Rows He He5
/-! ### what is seen behind the top: Bools of the written part, defs, methods of own exceptions -/
abbrev FnXW : Type := Option (PySem.Str × PySem.Str × Arguments × FuncBody × Scope × Addr × List PySem.Str × Addr)
def fnXa (K : Frag) (a : Addr) : FnXW := match K.lookup a with
  | some ⟨_, _, .func fd, _⟩ => some (fd.name, fd.qualname, fd.params, fd.body, fd.scope, fd.globals, fd.closure.map (·.1), fd.builtins)
  | _ => none
/-- an __init__ that says super() -/
structure XI where
  x : PySem.Str
  params : Arguments
  body : List Stmt
  scope : Scope
def XI.val (d : XI) : FnXW := some ("__init__", d.x ++ ".__init__", d.params, .stmts d.body, d.scope, mainGlobals, ["__class__"], builtinsNs)
def XI.at_ (d : XI) (K : Frag) : Addr := ma K (ga K d.x) "__init__"
abbrev AlO : Type := Bool × List He.FnW × List FnXW
def obsO (fb : List (Frag → Bool)) (fn : List DefA) (xs : List XI) (K : Frag) : AlO := ((fb.all fun f => f K) && fn.all fun d => d.ok K, fn.map (fun d => fnA K (d.at_ K)), xs.map fun d => fnXa K (d.at_ K))
def valO (fn : List DefA) (xs : List XI) : AlO := (true, fn.map DefA.val, xs.map XI.val)
def SaysO (fb : List (Frag → Bool)) (fn : List DefA) (xs : List XI) (K : Frag) : Prop := obsO fb fn xs K = valO fn xs
def obsOG (n : Nat) (fb : List (Frag → Bool)) (fn : List DefA) (xs : List XI) (g : Addr → Option Obj) : AlO := obsO fb fn xs (frG g (asA g n))
def hookO (n : Nat) (fb : List (Frag → Bool)) (fn : List DefA) (xs : List XI) : PySem.W.Hook where
  α := AlO
  obs := fun s => obsOG n fb fn xs s.heap.get?
  val := fun _ => valO fn xs
  says := fun _ h => ∃ K : Frag, K.In h ∧ SaysO fb fn xs K
  of := fun _ _ e => ⟨_, frG_in, e⟩
  keeps := fun _ _ _ ⟨K, hK, c⟩ k => ⟨K, Frag.In.keeps hK k, c⟩
theorem obsOG_eq {n : Nat} {fb : List (Frag → Bool)} {fn : List DefA} {xs : List XI} {g : Addr → Option Obj} {s : Shared} (h : ∀ a, g a = s.heap.get? a) : obsOG n fb fn xs g = (hookO n fb fn xs).obs s := by
  have e : g = s.heap.get? := funext h
  rw [e] <;> rfl
section
variable {fb : List (Frag → Bool)} {fn : List DefA} {xs : List XI} {K : Frag}
theorem SaysO.fact (c : SaysO fb fn xs K) (i : Nat) {f : Frag → Bool} (h : fb[i]? = some f := by rfl) : f K = true := by
  have c1 := (ba (show ((fb.all fun f => f K) && fn.all fun d => d.ok K) = true from congrArg (fun z : AlO => z.1) c)).1
  exact List.all_eq_true.mp c1 f (List.mem_of_getElem? h)
theorem SaysO.def_ (c : SaysO fb fn xs K) (i : Nat) {d : DefA} (h : fn[i]? = some d := by rfl) : ∃ fd, L2.FunD K d.name d.qual d.params d.body d.scope (d.dvs K) (d.kws K) (d.at_ K) fd := by
  have c2 := (ba (show ((fb.all fun f => f K) && fn.all fun d => d.ok K) = true from congrArg (fun z : AlO => z.1) c)).2
  have e : fn.map (fun d => fnA K (d.at_ K)) = fn.map DefA.val := congrArg (fun z : AlO => z.2.1) c
  have e2 : (fn.map fun d => fnA K (d.at_ K))[i]? = (fn.map DefA.val)[i]? := by rw [e]
  rw [List.getElem?_map, List.getElem?_map, h] at e2
  exact DefA.funD (Option.some.inj e2) (List.all_eq_true.mp c2 d (List.mem_of_getElem? h))
theorem SaysO.xi (c : SaysO fb fn xs K) (i : Nat) {d : XI} (h : xs[i]? = some d := by rfl) : fnXa K (d.at_ K) = d.val := by
  have e : xs.map (fun d => fnXa K (d.at_ K)) = xs.map XI.val := congrArg (fun z : AlO => z.2.2) c
  have e2 : (xs.map fun d => fnXa K (d.at_ K))[i]? = (xs.map XI.val)[i]? := by rw [e]
  rw [List.getElem?_map, List.getElem?_map, h] at e2
  exact Option.some.inj e2
end
/-! ### an own class of exceptions over ValueError (or over an own one of these) -/
def xcls (K : Frag) (C : Addr) : Bool := match K.lookup C with
  | some ⟨.type "type", _, .cls cd, sl⟩ => (match cd.mro, sl.toList with
    | .ref C' :: bm, [_, _, _, _, some (.builtin n), _] => C' == C && n == "ValueError.__new__" && !cd.hasDel && cd.hasDict && PySem.HandSPX.refsVE bm
    | _, _ => false)
  | _ => false
theorem xcls_ok {K : Frag} {C : Addr} (q : xcls K C = true) : ∃ nm q N bs bm sn sub ab col dd k0 k1 k2 k3 k5, K.lookup C = some (excClassObj nm q C N bs bm true sn sub ab col dd k0 k1 k2 k3 k5 "ValueError.__new__") ∧ PySem.HandSPX.refsVE bm = true := by
  unfold xcls at q
  split at q
  · rename_i dd cd sl ho
    split at q
    · rename_i C' bm k0 k1 k2 k3 n k5 hm hs
      simp only [Bool.and_eq_true, beq_iff_eq, Bool.not_eq_true'] at q
      obtain ⟨⟨⟨⟨rfl, rfl⟩, hdel⟩, hdi⟩, ht⟩ := q
      obtain ⟨nm, bs, mro, ns, qn, hd, sn, sub, ab, col, del⟩ := cd
      dsimp only at hm hdel hdi
      subst hm hdel hdi
      have hsl : sl = #[k0, k1, k2, k3, some (.builtin "ValueError.__new__"), k5] := by
        obtain ⟨l⟩ := sl
        simp only at hs
        rw [hs]
      subst hsl
      exact ⟨nm, qn, ns, bs, bm, sn, sub, ab, col, dd, k0, k1, k2, k3, k5, ho, ht⟩
    · cases q
  · cases q
/-- its __init__: code, file, cell -/
def xfun (F : PySem.Str) (K : Frag) (C f : Addr) (qual : PySem.Str) : Bool := match K.lookup f with
  | some ⟨_, _, .func fd, _⟩ => (match fd.code, fd.closure, fd.defaults with
    | .ref cda, [(_, cc)], .none => codeIn K (.ref cda) qual && ((match K.lookup cda with
        | some ⟨_, _, .fields vs, _⟩ => (match (vs[2]? : Option Value) with
          | some (Value.str fi _) => F == fi
          | _ => false)
        | _ => false) && (match K.lookup cc with
        | some ⟨_, _, .cell (some (.ref C')), _⟩ => C' == C
        | _ => false))
    | _, _, _ => false)
  | _ => false
def xB1 (x : PySem.Str) (fs : List PySem.Str) (K : Frag) : Bool :=
  eqO (nsIn K mainGlobals x) (some (some (.ref (ga K x)))) && (xcls K (ga K x) && (eqO (findIn K (.ref (ga K x)) "__setattr__") (some (some (.builtin "object.__setattr__"))) && (eqO (findIn K (.ref (ga K x)) "__getattribute__") (some (some (.builtin "BaseException.__getattribute__"))) &&
  (eqO (findIn K (.ref (ga K x)) "__getattr__") (some none) && (fs.all (fun f => eqO (findIn K (.ref (ga K x)) f) (some none)) && (keepIn K (.ref (ga K x)) && (decide (subIn K (.ref (ga K x)) (.type "BaseException") = some true) && (decide (subIn K (.ref (ga K x)) (.type "ValueError") = some true) &&
  (decide (typeIn K (.ref (ga K x)) = some (.type "type")) && (hasDictIn K (ga K x) && decide (mroIn K (ga K x) (.ref (ga K x)) = some true)))))))))))
def xB2 (F x : PySem.Str) (K : Frag) : Bool :=
  eqO (ks_superIn K (ga K x) (ga K x) "__init__") (some (some (.builtin "ValueError.__init__"))) && (eqO (nsIn K cStatics "thirdparty.any") (some none) && (eqO (nsIn K mainGlobals "super") (some none) && (eqO (findIn K (.ref (ga K x)) "__init__") (some (some (.ref (ma K (ga K x) "__init__")))) &&
  (decide (typeIn K (.ref (ma K (ga K x) "__init__")) = some (.type "function")) && xfun F K (ga K x) (ma K (ga K x) "__init__") (x ++ ".__init__")))))
theorem x_ok {P : Program} {K : Frag} {h : Heap} {mg : PySem.Str → Option Value} {F x : PySem.Str} {fs : List PySem.Str} (X : K.In h) (G : h.Ns mainGlobals mg) (b1 : xB1 x fs K = true) (b2 : xB2 F x K = true) {d : XI} (e : fnXa K (d.at_ K) = d.val) (dx : d.x = x)
    (hF : P.main.file = F) {msg : PySem.Str} {k : Nat} {p0 p1 p2 p3 p4 p5 : Pos} {ss : List Stmt} {pa : Arg} (hb : d.body = Xc.sup msg k p0 p1 p2 p3 p4 p5 :: ss) (st : Xc.Stos ss fs) (hpa : (d.params.posonlyargs ++ d.params.args).head? = some pa) (hps : pa.arg = "self")
    (bnd : ∀ (kV doc pm : Value) (an : Option Addr) (cdv ct : Value) (cc : Addr) (us : List Value), us.length = fs.length + 1 → bindArgs (ksFn "__init__" (x ++ ".__init__") d.params d.body d.scope .none kV doc pm an cdv ct cc) ⟨us, []⟩ = pure ((("self" : PySem.Str) :: fs).zip us))
    (scp : d.scope.kind = .function ∧ d.scope.isCoroutine = false ∧ d.scope.isGenerator = false ∧ (∀ y ∈ d.scope.names, y.2 ≠ .cell) ∧ d.scope.names.lookup ("self" : PySem.Str) = some .local ∧ (∀ f ∈ fs, d.scope.names.lookup f = some .local ∧ (f == ("__debug__" : PySem.Str)) = false) ∧
      d.scope.names.lookup ("super" : PySem.Str) = some .globalImplicit ∧ d.scope.names.lookup ("__class__" : PySem.Str) = some .free)
    (ln : (p2.endLine == p4.line) = true) (nd : ("self" :: fs : List PySem.Str).Nodup) (fl : (P.main.scope.names.lookup ("super" : PySem.Str)).isSome = false) : Xc.Txt P K mg x fs (ga K x) := by
  obtain ⟨c1, b1⟩ := ba b1
  obtain ⟨c2, b1⟩ := ba b1
  obtain ⟨c3, b1⟩ := ba b1
  obtain ⟨c4, b1⟩ := ba b1
  obtain ⟨c5, b1⟩ := ba b1
  obtain ⟨c6, b1⟩ := ba b1
  obtain ⟨c7, b1⟩ := ba b1
  obtain ⟨c8, b1⟩ := ba b1
  obtain ⟨c9, b1⟩ := ba b1
  obtain ⟨c10, b1⟩ := ba b1
  obtain ⟨c11, c12⟩ := ba b1
  obtain ⟨s1, b2⟩ := ba b2
  obtain ⟨s2, b2⟩ := ba b2
  obtain ⟨s3, b2⟩ := ba b2
  obtain ⟨s4, b2⟩ := ba b2
  obtain ⟨s5, s6⟩ := ba b2
  subst dx
  refine { gC := mg_of X G (eqO_ok c1), cls := xcls_ok c2, sa := eqO_ok c3, ga := eqO_ok c4, gg := eqO_ok c5, noF := fun f hf => eqO_ok (List.all_eq_true.mp c6 f hf), kC := c7, exC := of_decide_eq_true c8, veC := of_decide_eq_true c9, tyC := of_decide_eq_true c10, hdC := c11, self := of_decide_eq_true c12, up := eqO_ok s1, opq := eqO_ok s2, sup := mg_none_of X G (eqO_ok s3), nd := nd, file := fl, fn := ?_ }
  have e2 : fnXa K (ma K (ga K d.x) "__init__") = d.val := e
  unfold xfun at s6
  unfold fnXa at e2
  cases q : K.lookup (ma K (ga K d.x) "__init__") with
  | none => rw [q] at s6; cases s6
  | some o =>
    obtain ⟨oc, od, dt, osl⟩ := o
    rw [q] at s6 e2
    cases dt with
    | func fd =>
      obtain ⟨n1, n2, n3, n4, n5, n6, n7, n8, n9, n10, n11, n12, n13, n14, n15⟩ := fd
      have e3 : (some (n1, n2, n3, n4, n5, n6, n7.map (·.1), n15) : FnXW) = some (("__init__" : PySem.Str), d.x ++ ".__init__", d.params, FuncBody.stmts d.body, d.scope, mainGlobals, [("__class__" : PySem.Str)], builtinsNs) := e2
      simp only [Option.some.injEq, Prod.mk.injEq] at e3
      obtain ⟨h1, h2, h3, h4, h5, h6, h7, h8⟩ := e3
      dsimp only at s6
      split at s6
      · rename_i cda nm cc
        have h7' : nm = "__class__" := by simpa using h7
        subst h1 h2 h3 h4 h5 h6 h8 h7'
        obtain ⟨t1, t2⟩ := ba s6
        obtain ⟨t2, t3⟩ := ba t2
        refine ⟨ma K (ga K d.x) "__init__", cda, cc, oc, od, osl, .none, n9, n10, n11, n12, n14, msg, k, p0, p1, p2, p3, p4, p5, ss, d.params, d.scope, pa, eqO_ok s4, of_decide_eq_true s5, st, ?_, hpa, hps, ?_, scp, t1, ln, ?_, ?_⟩
        · rw [q, ← hb]
        · intro us hu
          rw [← hb]
          exact bnd n9 n10 n11 n12 (.ref cda) n14 cc us hu
        · split at t2
          · rename_i vs sl2 hvs
            split at t2
            · rename_i file tf hfi
              exact ⟨_, _, vs, _, file, tf, by assumption, hfi, by rw [hF]; exact t2⟩
            · cases t2
          · cases t2
        · split at t3
          · rename_i C' sl3 hcc
            have : C' = ga K d.x := beq_iff_eq.mp t3
            subst this
            exact ⟨_, _, _, by assumption⟩
          · cases t3
      · cases s6
    | _ => cases s6
/-- what isinstance looks at -/
def excB (x : PySem.Str) (K : Frag) : Bool :=
  eqO (findIn K (.ref (ga K x)) "__getattribute__") (some (some (.builtin "BaseException.__getattribute__"))) && (eqO (findIn K (.ref (ga K x)) "__getattr__") (some none) && (decide (subIn K (.ref (ga K x)) (.type "BaseException") = some true) && (hasDictIn K (ga K x) &&
  (eqO (findIn K (.ref (ga K x)) "__class__") (some (some (.builtin "object.__class__"))) && (eqO (specialIn K (.builtin "object.__class__") "__get__") (some (some (.builtin "getset_descriptor.__get__"))) && (decide (takesIn K (.builtin "object.__class__") = some true) && decide (mroIn K (ga K x) (.type "object") = some true)))))))
theorem excB_ok {K : Frag} {x : PySem.Str} (h : excB x K = true) : L2.ExcC K (ga K x) := by
  obtain ⟨h1, h⟩ := ba h
  obtain ⟨h2, h⟩ := ba h
  obtain ⟨h3, h⟩ := ba h
  obtain ⟨h4, h⟩ := ba h
  obtain ⟨h5, h⟩ := ba h
  obtain ⟨h6, h⟩ := ba h
  obtain ⟨h7, h8⟩ := ba h
  exact ⟨eqO_ok h1, eqO_ok h2, of_decide_eq_true h3, h4, eqO_ok h5, eqO_ok h6, of_decide_eq_true h7, of_decide_eq_true h8⟩
def kitB' (x : PySem.Str) (y : Frag → Value) (b : Bool) (K : Frag) : Bool := decide (kitOne K (.ref (ga K x)) (y K) = some b)
def gloV (x : PySem.Str) (v : Value) (K : Frag) : Bool := eqO (nsIn K mainGlobals x) (some (some v))
theorem gloV_ok {K : Frag} {h : Heap} {mg : PySem.Str → Option Value} (X : K.In h) (G : h.Ns mainGlobals mg) {x : PySem.Str} {v : Value} (c : gloV x v K = true) : mg x = some v := mg_of X G (eqO_ok c)
def fa (f : Fa) (K : Frag) : Bool := f.ok K
/-- a tuple of the text: x stands for it, its items are vs -/
def tupB (x : PySem.Str) (vs : List L2.V) (K : Frag) : Bool := match K.lookup (ga K x) with
  | some ⟨c, _, .seq its _, _⟩ => decide (c = .type "tuple") && (decide (its.size ≤ sizeLine) && relAll vs its.toList)
  | _ => false
theorem tupB_ok {K : Frag} {x : PySem.Str} {vs : List L2.V} (h : tupB x vs K = true) (H : L2.Hp) : L2.SqT K H (ga K x) vs := by
  unfold tupB at h
  cases q : K.lookup (ga K x) with
  | none => rw [q] at h; cases h
  | some o =>
    obtain ⟨c, dd, dt, sl⟩ := o
    rw [q] at h
    cases dt with
    | seq its n =>
      have h' : (decide (c = .type "tuple") && (decide (its.size ≤ sizeLine) && relAll vs its.toList)) = true := h
      obtain ⟨h1, h2⟩ := ba h'
      obtain ⟨h2, h3⟩ := ba h2
      exact .inr ⟨_, its, n, q, of_decide_eq_true h1, rfl, of_decide_eq_true h2, relAll_ok h3⟩
    | _ => cases h
end Hk

set_option Elab.async false
set_option linter.all false
set_option maxRecDepth 100000
set_option maxHeartbeats 4000000
namespace Uv
open PySem PySem.Spec L2
open PyProof.Rows hiding St
/-! ### the law called behind the top, no repr running -/
def scrH (K : PySem.W.Frag) (a : Addr) (o : Obj) (xs : List V) : Hp := fun b => if ((K.lookup a).isNone && decide (b = a)) = true then some (.frz o (.lst xs)) else none
section
variable {P : Program} {w : World} {K : PySem.W.Frag} {mg mb : Str → Option Value} {a : Addr} {o : Obj} {xs : List V} {h : Heap}
theorem scr_hit {b : Addr} {u : HO} (e : scrH K a o xs b = some u) : K.lookup a = none ∧ b = a ∧ u = .frz o (.lst xs) := by
  unfold scrH at e
  split at e
  · rename_i c
    rw [Bool.and_eq_true, decide_eq_true_eq, Option.isNone_iff_eq_none] at c
    exact ⟨c.1, c.2, (Option.some.inj e).symm⟩
  · cases e
theorem scr_off {b : Addr} (n : ¬ (K.lookup a = none ∧ b = a)) : scrH K a o xs b = none := by
  cases q : scrH K a o xs b with
  | none => rfl
  | some u => exact absurd ⟨(scr_hit q).1, (scr_hit q).2.1⟩ n
theorem scr_here (n : K.lookup a = none) : scrH K a o xs a = some (.frz o (.lst xs)) := by
  unfold scrH
  rw [if_pos]
  rw [n]
  simp
theorem scr_K {b : Addr} {q : Obj} (e : K.lookup b = some q) : scrH K a o xs b = none := scr_off fun ⟨n, z⟩ => by
  rw [z, n] at e
  cases e
theorem scr_ns (ha : h.get? a = some o) (nd : ∀ es ep, o.data ≠ .dict es ep) {b : Addr} {m : Str → Option Value} (N : h.Ns b m) : (hidT h (scrH K a o xs)).Ns b m := by
  obtain ⟨q, es, ep, e, d, r⟩ := N
  refine ⟨q, es, ep, hidT_get e (scr_off fun ⟨_, z⟩ => ?_), d, r⟩
  rw [z, ha] at e
  rw [← Option.some.inj e] at d
  exact nd _ _ d
end
theorem law_g {P : Program} {w : World} {K : PySem.W.Frag} {mg mb : Str → Option Value} {k : Nat} {fa a : Addr} {fd : FuncData} {x : Str} {sp : Sp} {s : Shared} {vs : List Value} {ns : List Int}
    (KX : K.In s.heap) (hns : s.heap.Ns mainGlobals mg) (hb : s.heap.Ns builtinsNs mb) (hbb : ∀ x : Str, x ≠ "__name__" → mb x = bootBuiltins x) (hlim : s.heap.NoLimit) (hg : s.gens = #[])
    (ha : s.heap.get? a = some { cls := .type "list", data := .seq vs.toArray }) (hi : IntsAre vs ns) (hl : ns.length ≤ sizeLine) (hr : Room k callerA)
    (F : ∀ base : Heap, K.In base → base.Ns mainGlobals mg → FnG P w K mg base k fa fd [x] sp) (hbind : ∀ (s : Shared) (u : Value), BindsTo s fd ⟨[u], []⟩ [(x, u)])
    (hsp : ∀ H : Hp, SqL K H a (ns.map V.int) → sp [.ref a] H (fun v _ => v = .bl true) E0) :
    codeAny (model P w) callerA (.call (.ref fa) ⟨[.ref a], []⟩) (fun r s' => r = .ok (.ret (.bool true)) ∧ OldK s.heap s'.heap ∧ s'.os = s.os ∧ AllBare s'.gens) s := by
  have rv : Vals (ns.map V.int) vs := vals_ints hi
  have nd : ∀ es ep, ({ cls := .type "list", data := .seq vs.toArray } : Obj).data ≠ .dict es ep := fun _ _ z => by
    have z' : Data.seq vs.toArray _ = Data.dict _ _ := z
    cases z'
  have lenN : (ns.map V.int).length ≤ sizeLine := by rw [List.length_map]; exact hl
  obtain ⟨H, hH⟩ : ∃ H, H = scrH K a { cls := .type "list", data := .seq vs.toArray } (ns.map V.int) := ⟨_, rfl⟩
  have N' : ∀ {b : Addr} {m : Str → Option Value}, s.heap.Ns b m → (hidT s.heap H).Ns b m := fun z => by rw [hH]; exact scr_ns ha nd z
  have kin : K.In (hidT s.heap H) := fun b q e => hidT_get (KX b q e) (by rw [hH]; exact scr_K e)
  have hok : HOk P w H s.heap := fun b u e => by
    rw [hH] at e
    obtain ⟨_, rfl, rfl⟩ := scr_hit e
    exact ⟨ha, lenN, vs, _, rv, ha⟩
  have sq : SqL K H a (ns.map V.int) := by
    cases q : K.lookup a with
    | none => exact .inl (.inr ⟨_, by rw [hH]; exact scr_here q⟩)
    | some ob =>
      have e := KX a ob q
      rw [ha] at e
      cases e
      exact .inr ⟨_, vs.toArray, _, q, rfl, rfl, rfl, by rw [List.size_toArray, hi.length]; exact hl, by simpa using rv⟩
  have M : Mod K mg (hidT s.heap H) := ⟨kin, N' hns, ⟨mb, N' hb, hbb⟩, by
    obtain ⟨mc, h1, h2⟩ := hlim
    exact ⟨mc, N' h1, h2⟩⟩
  have e0 : Env0 P w K mg (hidT s.heap H) callerA [] s H := { frames := rfl, mod := M, bs := fun b q e => of_hidT e, bsz := Nat.le_of_eq (hidT_size _ _), funs := trivial, frf := (fun b hb => nomatch hb), hok := hok, bare := .of_eq hg }
  refine codeAny_mono ((F _ kin (N' hns)).run callerA [] s H ⟨[.ref a], []⟩ [.ref a] [.ref a] _ _ hr rfl e0 (hbind s (.ref a)) (.cons rfl .nil) (hsp H sq)) fun r s' z => ?_
  match r, z with
  | .ok (.ret u), z =>
    obtain ⟨v, H', os, bare, un, ok', rv', q⟩ := z
    have q' : v = .bl true := q
    subst q'
    obtain rfl : u = Value.bool true := rv'
    refine ⟨rfl, OldK.of_keep fun b ob e => ?_, os, bare⟩
    cases q : H b with
    | none => exact un.keep b ob e q (fun z => nomatch z) (fun z => nomatch z)
    | some u =>
      have q2 := q
      rw [hH] at q2
      obtain ⟨_, rfl, rfl⟩ := scr_hit q2
      have h2 := ok' _ _ (un.frzs _ _ _ q)
      rw [ha] at e
      cases e
      exact h2.1
  | .ok .next, z => exact z.elim
  | .ok .brk, z => exact z.elim
  | .ok .cont, z => exact z.elim
  | .error e, z =>
    obtain ⟨_, _, _, _, _, _, _, _, _, _, _, _, zz⟩ := z
    exact zz.elim
/-- what a row asks behind its top -/
theorem walk_g {l : PySem.W.OpenLaw} {n k : Nat} {q : Program} {loose : List Str} {XP : (Str → Option Value) → Heap → Prop} {YP : World → Heap → Prop} {d : DefRec} {x : Str}
    (hn : l.most = some n) (hn2 : n ≤ sizeLine) (hdf : d.params.defaults = []) (hr : Room k callerA)
    (F : ∀ (w : World) (mg : Str → Option Value) (fa : Addr) (h : Heap), YP w h → h.Ns mainGlobals mg → mg d.name = some (.ref fa) →
      ∃ (K : PySem.W.Frag) (fd : FuncData) (sp : Sp), K.In h ∧ (∀ (s : Shared) (u : Value), BindsTo s fd ⟨[u], []⟩ [(x, u)]) ∧
        (∀ (H : Hp) (a : Addr) (ns : List Int), ns.length ≤ n → (∀ z ∈ ns, Builtin.Int.intBits z ≤ 1048576) → SqL K H a (ns.map V.int) → sp [.ref a] H (fun v _ => v = .bl true) E0) ∧
        ∀ base : Heap, K.In base → base.Ns mainGlobals mg → FnG l.prog w K mg base k fa fd [x] sp) :
    PySem.W.WalkO q loose XP YP l.row.toRowW d [] (fun f vs => PySem.call f vs) := by
  refine Att.attach_callB hn hdf fun w s₀ s mg mb fa o pm cd doc a vs ns G Y ho hd hcd hmg hobj hints hlen hbits hg => ?_
  obtain ⟨K, fd, sp, KX, hb, hsp, hF⟩ := F w mg fa _ Y G.T.g hmg
  exact law_g KX G.T.g G.T.b G.T.builtins G.T.nolimit hg hobj hints (Nat.le_trans hlen hn2) hr hF hb fun H hS => hsp H a ns hlen hbits hS
/-- a def by its name -/
theorem cal_mk {P : Program} {w : World} {K : PySem.W.Frag} {mg : Str → Option Value} {base : Heap} {k : Nat} {x : Str} {f : Addr} {fd : FuncData} {ps : List Str} {dvs : List V} {sp : Sp} (F : FnG P w K mg base k f fd ps sp) (hm : mg x = some (.ref f)) (hk : PySem.W.keepIn K (.ref f) = true)
    {ds : List Value} (hb : Binds K fd ps ds) (hd : Vals dvs ds) : Cal P w K mg base k x ps dvs sp := ⟨f, fd, ds, F, hm, hk, hb, hd⟩
theorem bits_log {z : Int} {n : Nat} (h : Builtin.Int.intBits z ≤ n) : z.natAbs.log2 ≤ n := by
  unfold Builtin.Int.intBits at h
  split at h
  · rename_i e
    have : z = 0 := by simpa using e
    subst this
    simp
  · omega
end Uv

set_option Elab.async false
set_option linter.all false
set_option maxRecDepth 100000
set_option maxHeartbeats 4000000
namespace Hk
open PySem PySem.W PySem.Calls PyProof.Rows He He5
/-! ### facts of own classes, read behind the top -/
def insB (x : PySem.Str) (K : Frag) : Bool :=
  eqO (findIn K (.ref (ga K x)) "__class__") (some (some (.builtin "object.__class__"))) && (eqO (specialIn K (.builtin "object.__class__") "__get__") (some (some (.builtin "getset_descriptor.__get__"))) &&
    (decide (takesIn K (.builtin "object.__class__") = some true) && decide (mroIn K (ga K x) (.type "object") = some true)))
theorem insB_ok {K : Frag} {x : PySem.Str} (c : L2.Cls K (ga K x)) (h : insB x K = true) (H : L2.Hp) (a dx : Addr) (fs : List (PySem.Str × L2.V)) (e : H a = some (.ins (ga K x) dx fs)) : L2.TyX K H (.ref a) (.ref (ga K x)) := by
  obtain ⟨h1, h⟩ := ba h
  obtain ⟨h2, h⟩ := ba h
  obtain ⟨h3, h4⟩ := ba h
  exact .base (.ins e c (eqO_ok h1) (eqO_ok h2) (of_decide_eq_true h3) (of_decide_eq_true h4))
def sg (K : Frag) (x m : PySem.Str) : Addr := match recIn K (ma K (ga K x) m) "staticmethod" with
  | some (.ref g :: _) => g
  | _ => 0
def stB (x m : PySem.Str) (K : Frag) : Bool :=
  readsIn K (ga K x) (.type "type") && (eqO (specialIn K (.ref (ga K x)) "__getattribute__") (some (some (.builtin "type.__getattribute__"))) &&
  ((match findCls K (.ref (ga K x)) (.type "type") m with
    | some (.get g a o t) => decide (g = .builtin "staticmethod.__get__") && (decide (a = .ref (ma K (ga K x) m)) && (decide (o = .none) && decide (t = .ref (ga K x))))
    | _ => false) &&
  ((match recIn K (ma K (ga K x) m) "staticmethod" with
    | some (.ref _ :: _) => true
    | _ => false) &&
  (keepIn K (.ref (sg K x m)) && (plainGet K (ga K x) Str.empty && (isClsIn K (ga K x) && (eqO (findIn K (.ref (ga K x)) m) (some (some (.ref (ma K (ga K x) m)))) &&
  (decide (typeIn K (.ref (ma K (ga K x) m)) = some (.type "staticmethod")) && (eqO (specialIn K (.ref (ma K (ga K x) m)) "__get__") (some (some (.builtin "staticmethod.__get__"))) &&
  (decide (takesIn K (.ref (ma K (ga K x) m)) = some false) && decide (copiedNames.contains m = false)))))))))))
theorem stB_ok {K : Frag} {x m : PySem.Str} (h : stB x m K = true) : Uv.CSt K (ga K x) (.type "type") m (ma K (ga K x) m) (sg K x m) := by
  obtain ⟨h1, h⟩ := ba h
  obtain ⟨h2, h⟩ := ba h
  obtain ⟨h3, h⟩ := ba h
  obtain ⟨h4, h⟩ := ba h
  obtain ⟨h5, h⟩ := ba h
  obtain ⟨h6, h⟩ := ba h
  obtain ⟨h7, h⟩ := ba h
  obtain ⟨h8, h⟩ := ba h
  obtain ⟨h9, h⟩ := ba h
  obtain ⟨hA, h⟩ := ba h
  obtain ⟨hB, hC⟩ := ba h
  refine ⟨h1, eqO_ok h2, ?_, ?_, h5, h6, h7, eqO_ok h8, of_decide_eq_true h9, eqO_ok hA, of_decide_eq_true hB, of_decide_eq_true hC⟩
  · cases q : findCls K (.ref (ga K x)) (.type "type") m with
    | none => rw [q] at h3; cases h3
    | some r =>
      rw [q] at h3
      cases r with
      | val v => cases h3
      | get g a o t =>
        obtain ⟨g1, g2⟩ := ba h3
        obtain ⟨g2, g3⟩ := ba g2
        obtain ⟨g3, g4⟩ := ba g3
        rw [of_decide_eq_true g1, of_decide_eq_true g2, of_decide_eq_true g3, of_decide_eq_true g4]
  · unfold sg
    cases q : recIn K (ma K (ga K x) m) "staticmethod" with
    | none => rw [q] at h4; cases h4
    | some r =>
      rw [q] at h4
      cases r with
      | nil => cases h4
      | cons v r =>
        cases v with
        | ref g => exact ⟨r, rfl⟩
        | _ => cases h4
/-- a constant of a class, an int: through an instance, through the class -/
def conB (x f : PySem.Str) (i : Int) (K : Frag) : Bool := match findIn K (.ref (ga K x)) f with
  | some (some (.int j t)) => decide (j = i) && ((match specialIn K (.int j t) "__get__" with
    | some none => true
    | _ => false) && decide (copiedNames.contains f = false))
  | _ => false
theorem conB_ok {K : Frag} {x f : PySem.Str} {i : Int} (h : conB x f i K = true) : ∃ u, L2.Con K (ga K x) f (.int i) u := by
  unfold conB at h
  split at h
  · rename_i j t q
    obtain ⟨h1, h⟩ := ba h
    obtain ⟨h2, h3⟩ := ba h
    have e := of_decide_eq_true h1
    subst e
    refine ⟨.int j t, q, ⟨t, rfl⟩, ?_, of_decide_eq_true h3⟩
    split at h2
    · rename_i e; exact e
    · cases h2
  · cases h
def cvB (x f : PySem.Str) (i : Int) (K : Frag) : Bool := readsIn K (ga K x) (.type "type") && (eqO (specialIn K (.ref (ga K x)) "__getattribute__") (some (some (.builtin "type.__getattribute__"))) &&
  (match findCls K (.ref (ga K x)) (.type "type") f with
    | some (.val (.int j _)) => decide (j = i)
    | _ => false))
theorem cvB_ok {K : Frag} {x f : PySem.Str} {i : Int} (h : cvB x f i K = true) : ∃ mc u, ClX.CRead K (ga K x) mc ∧ ClX.CVal K (ga K x) mc f (.int i) u := by
  obtain ⟨h1, h⟩ := ba h
  obtain ⟨h2, h3⟩ := ba h
  split at h3
  · rename_i j t q
    have e := of_decide_eq_true h3
    subst e
    exact ⟨.type "type", .int j t, ⟨h1, eqO_ok h2⟩, ⟨q, t, rfl⟩⟩
  · cases h3
/-- a tuple of the text at an address -/
def tupAB (p : Frag → Addr) (vs : List L2.V) (K : Frag) : Bool := match K.lookup (p K) with
  | some ⟨c, _, .seq its _, _⟩ => decide (c = .type "tuple") && (decide (its.size ≤ sizeLine) && relAll vs its.toList)
  | _ => false
theorem tupAB_ok {K : Frag} {p : Frag → Addr} {vs : List L2.V} (h : tupAB p vs K = true) (H : L2.Hp) : L2.SqT K H (p K) vs := by
  unfold tupAB at h
  cases q : K.lookup (p K) with
  | none => rw [q] at h; cases h
  | some o =>
    obtain ⟨c, dd, dt, sl⟩ := o
    rw [q] at h
    cases dt with
    | seq its n =>
      have h' : (decide (c = .type "tuple") && (decide (its.size ≤ sizeLine) && relAll vs its.toList)) = true := h
      obtain ⟨h1, h2⟩ := ba h'
      obtain ⟨h2, h3⟩ := ba h2
      exact .inr ⟨_, its, n, q, of_decide_eq_true h1, rfl, of_decide_eq_true h2, relAll_ok h3⟩
    | _ => cases h
/-- the look behind the top, off a tree that is made once -/
def obsT (n : Nat) (fb : List (Frag → Bool)) (fn : List DefA) (xs : List XI) (s : Shared) : AlO := match HandSHeadRun.treeOf s with
  | some x => HandSHeadRun.frS x fun x => obsOG n fb fn xs (HandSHeadRun.getT x)
  | none => (false, [], [])
theorem obsT_ok {n : Nat} {fb : List (Frag → Bool)} {fn : List DefA} {xs : List XI} {s : Shared} (h : obsT n fb fn xs s = valO fn xs) : ∃ K : Frag, K.In s.heap ∧ SaysO fb fn xs K := by
  unfold obsT at h
  split at h
  · rename_i x e
    rw [HandSHeadRun.frS_eq] at h
    have e2 := (HandSHeadRun.treeOf_eq e).1
    have e3 : HandSHeadRun.getT x = s.heap.get? := funext fun a => by rw [HandSHeadRun.getT_eq, e2]
    rw [e3] at h
    exact ⟨_, frG_in, h⟩
  · have := congrArg (fun z : AlO => z.1) h
    cases this
def hookT (n : Nat) (fb : List (Frag → Bool)) (fn : List DefA) (xs : List XI) : PySem.W.Hook where
  α := AlO
  obs := obsT n fb fn xs
  val := fun _ => valO fn xs
  says := fun _ h => ∃ K : Frag, K.In h ∧ SaysO fb fn xs K
  of := fun _ _ e => obsT_ok e
  keeps := fun _ _ _ ⟨K, hK, c⟩ k => ⟨K, Frag.In.keeps hK k, c⟩
/-- the look behind the top over all addresses there are -/
def obsR (fb : List (Frag → Bool)) (fn : List DefA) (xs : List XI) (s : SharedT) : AlO := obsO fb fn xs (frG (HandSHeadRun.getT s) (List.range s.n))
def hookR (fb : List (Frag → Bool)) (fn : List DefA) (xs : List XI) : PySem.W.Hook where
  α := AlO
  obs := fun s => obsO fb fn xs (frG s.heap.get? (List.range s.heap.objs.size))
  val := fun _ => valO fn xs
  says := fun _ h => ∃ K : Frag, K.In h ∧ SaysO fb fn xs K
  of := fun _ _ e => ⟨_, frG_in, e⟩
  keeps := fun _ _ _ ⟨K, hK, c⟩ k => ⟨K, Frag.In.keeps hK k, c⟩
theorem obsR_eq {fb : List (Frag → Bool)} {fn : List DefA} {xs : List XI} (s : SharedT) : obsR fb fn xs s = (hookR fb fn xs).obs s.abs := by
  have e1 : HandSHeadRun.getT s = s.abs.heap.get? := funext fun a => HandSHeadRun.getT_eq s a
  have e2 : s.abs.heap.objs.size = s.n := absHeap_size _ _ _
  show obsO fb fn xs (frG (HandSHeadRun.getT s) (List.range s.n)) = obsO fb fn xs (frG s.abs.heap.get? (List.range s.abs.heap.objs.size))
  rw [e1, e2]
/-- the whole run's equation, told in three parts -/
def Run1 (r : OpenRow) (M : Nat) (w : World) : Prop := (HandSHeadRun.wholeF (fun p => HandSHeadRun.stepQ (HandSHeadRun.denQ HandSHeadRun.tabQ) p w) HandSHeadRun.fenceQ M r.prog).map (fun x => HandSHeadRun.looksF r.prog x.1.heap x.2.abs) = some true
def Run2 (r : OpenRow) (q : Program) (M : Nat) (loose : List PySem.Str) (w : World) : Prop := (HandSHeadRun.wholeF (fun p => HandSHeadRun.stepQ (HandSHeadRun.denQ HandSHeadRun.tabQ) p w) HandSHeadRun.fenceQ M r.prog).map (fun x => HandSHeadRun.seenQ q loose (importedModules r.prog.main.body) (fun s => xlAt q [] s && recOk r.toRowW.records s) x.2.abs) = some (openGood q loose)
def Run3 (r : OpenRow) (α : Type) (ob : SharedT → α) (M : Nat) (v : α) (w : World) : Prop := (HandSHeadRun.wholeF (fun p => HandSHeadRun.stepQ (HandSHeadRun.denQ HandSHeadRun.tabQ) p w) HandSHeadRun.fenceQ M r.prog).map (fun x => ob x.2) = some v
theorem map3 {A α β γ : Type} {f : A → α} {g : A → β} {k : A → γ} {a : α} {b : β} {c : γ} (o : Option A) (h1 : o.map f = some a) (h2 : o.map g = some b) (h3 : o.map k = some c) : o.map (fun x => (f x, g x, k x)) = some (a, b, c) := by
  cases o with
  | none => cases h1
  | some x =>
    have e1 : f x = a := Option.some.inj h1
    have e2 : g x = b := Option.some.inj h2
    have e3 : k x = c := Option.some.inj h3
    show some (f x, g x, k x) = _
    rw [e1, e2, e3]
theorem runEq3 {r : OpenRow} {q : Program} {H : PySem.W.Hook} {ob : SharedT → H.α} {M : Nat} {loose : List PySem.Str} {w : World}
    (h1 : Run1 r M w) (h2 : Run2 r q M loose w) (h3 : Run3 r H.α ob M (H.val w) w) : HandSHeadRun.RunEqI r q H ob M loose w := map3 _ h1 h2 h3
end Hk
namespace Uv
open PySem PySem.Spec L2
open PyProof.Rows hiding St
section
variable {P : Program} {w : World} {K : PySem.W.Frag} {mg : Str → Option Value} {base : Heap} {k : Nat} {x m : Str} {C p f : Addr} {fd : FuncData} {ps : List Str} {sp : Sp} {mc : Value}
theorem calC_mk (F : FnG P w K mg base k f fd ps sp) (g : mg x = some (.ref C)) (M : Mk K C f) (b : Binds K fd ps []) : CalC P w K mg base k x C ps sp := ⟨g, f, fd, F, M, b⟩
theorem calCd_mk {dvs : List V} {ds : List Value} (F : FnG P w K mg base k f fd ps sp) (g : mg x = some (.ref C)) (M : Mk K C f) (b : Binds K fd ps ds) (d : Vals dvs ds) : CalCd P w K mg base k x C ps dvs sp := ⟨g, f, fd, ds, F, M, b, d⟩
theorem calM_mk (F : FnG P w K mg base k f fd ps sp) (c : Cls K C) (M : Meth K C m f) (b : Binds K fd ps []) : CalM P w K mg base k C m ps sp := ⟨c, f, fd, F, M, b⟩
theorem calS_mk (F : FnG P w K mg base k f fd ps sp) (M : CSt K C mc m p f) (b : Binds K fd ps []) : CalS P w K mg base k C m ps sp := ⟨mc, p, f, fd, F, M, b⟩
end
end Uv

set_option Elab.async false
set_option pp.maxSteps 500
set_option linter.all false
set_option maxRecDepth 100000
set_option maxHeartbeats 4000000
namespace Lw
open PySem PySem.Spec L2 Uv
open PyProof.Rows hiding St
def top (i : Nat) : Stmt := PySem.Challenge.pw_ellwarden_k26_worlds.main.body.getD i (.Pass ⟨0, 0, 0, 0⟩)
abbrev s_Nought_init : Stmt := inClass (top 3) 0
abbrev N_Nought_init : List Str := ["self", "number"]
abbrev P_Nought_init : List Str := ["self", "number"]
abbrev s_BadWorld_init : Stmt := inClass (top 4) 0
abbrev N_BadWorld_init : List Str := ["self", "place"]
abbrev P_BadWorld_init : List Str := ["self", "place"]
abbrev s_BadSpot_init : Stmt := inClass (top 5) 0
abbrev N_BadSpot_init : List Str := ["self", "place"]
abbrev P_BadSpot_init : List Str := ["self", "place"]
abbrev s_NoSpot_init : Stmt := inClass (top 6) 0
abbrev N_NoSpot_init : List Str := ["self", "spot"]
abbrev P_NoSpot_init : List Str := ["self", "spot"]
abbrev s_is_integer : Stmt := top 9
abbrev N_is_integer : List Str := ["thing", "low", "high"]
abbrev P_is_integer : List Str := ["thing", "low", "high"]
theorem sc_is_integer : FnScope N_is_integer P_is_integer (defScope s_is_integer) := ⟨rfl, rfl, rfl, by decide +kernel, rfl, by decide +kernel, by decide +kernel⟩
abbrev s_ratio : Stmt := top 10
abbrev N_ratio : List Str := ["n", "d", "common"]
abbrev P_ratio : List Str := ["n", "d"]
theorem sc_ratio : FnScope N_ratio P_ratio (defScope s_ratio) := ⟨rfl, rfl, rfl, by decide +kernel, rfl, by decide +kernel, by decide +kernel⟩
abbrev s_is_ratio : Stmt := top 11
abbrev N_is_ratio : List Str := ["thing", "n", "d"]
abbrev P_is_ratio : List Str := ["thing"]
theorem sc_is_ratio : FnScope N_is_ratio P_is_ratio (defScope s_is_ratio) := ⟨rfl, rfl, rfl, by decide +kernel, rfl, by decide +kernel, by decide +kernel⟩
abbrev s_minus : Stmt := top 12
abbrev N_minus : List Str := ["a", "b"]
abbrev P_minus : List Str := ["a", "b"]
theorem sc_minus : FnScope N_minus P_minus (defScope s_minus) := ⟨rfl, rfl, rfl, by decide +kernel, rfl, by decide +kernel, by decide +kernel⟩
abbrev s_compare : Stmt := top 13
abbrev N_compare : List Str := ["a", "b", "left", "right"]
abbrev P_compare : List Str := ["a", "b"]
theorem sc_compare : FnScope N_compare P_compare (defScope s_compare) := ⟨rfl, rfl, rfl, by decide +kernel, rfl, by decide +kernel, by decide +kernel⟩
abbrev s_is_spot : Stmt := top 16
abbrev N_is_spot : List Str := ["thing"]
abbrev P_is_spot : List Str := ["thing"]
theorem sc_is_spot : FnScope N_is_spot P_is_spot (defScope s_is_spot) := ⟨rfl, rfl, rfl, by decide +kernel, rfl, by decide +kernel, by decide +kernel⟩
abbrev s_table_of_pairs : Stmt := top 17
abbrev N_table_of_pairs : List Str := ["pairs", "table", "place", "pair"]
abbrev P_table_of_pairs : List Str := ["pairs"]
theorem sc_table_of_pairs : FnScope N_table_of_pairs P_table_of_pairs (defScope s_table_of_pairs) := ⟨rfl, rfl, rfl, by decide +kernel, rfl, by decide +kernel, by decide +kernel⟩
abbrev s_World_init : Stmt := inClass (top 18) 0
abbrev N_World_init : List Str := ["self", "pairs"]
abbrev P_World_init : List Str := ["self", "pairs"]
theorem sc_World_init : FnScope N_World_init P_World_init (defScope s_World_init) := ⟨rfl, rfl, rfl, by decide +kernel, rfl, by decide +kernel, by decide +kernel⟩
abbrev s_World_getitem : Stmt := inClass (top 18) 1
abbrev N_World_getitem : List Str := ["self", "spot"]
abbrev P_World_getitem : List Str := ["self", "spot"]
theorem sc_World_getitem : FnScope N_World_getitem P_World_getitem (defScope s_World_getitem) := ⟨rfl, rfl, rfl, by decide +kernel, rfl, by decide +kernel, by decide +kernel⟩
abbrev s_World_iter : Stmt := inClass (top 18) 2
abbrev N_World_iter : List Str := ["self"]
abbrev P_World_iter : List Str := ["self"]
theorem sc_World_iter : FnScope N_World_iter P_World_iter (defScope s_World_iter) := ⟨rfl, rfl, rfl, by decide +kernel, rfl, by decide +kernel, by decide +kernel⟩
abbrev s_World_len : Stmt := inClass (top 18) 3
abbrev N_World_len : List Str := ["self"]
abbrev P_World_len : List Str := ["self"]
theorem sc_World_len : FnScope N_World_len P_World_len (defScope s_World_len) := ⟨rfl, rfl, rfl, by decide +kernel, rfl, by decide +kernel, by decide +kernel⟩
abbrev s_World_contains : Stmt := inClass (top 18) 4
abbrev N_World_contains : List Str := ["self", "spot"]
abbrev P_World_contains : List Str := ["self", "spot"]
theorem sc_World_contains : FnScope N_World_contains P_World_contains (defScope s_World_contains) := ⟨rfl, rfl, rfl, by decide +kernel, rfl, by decide +kernel, by decide +kernel⟩
abbrev s_World_eq : Stmt := inClass (top 18) 5
abbrev N_World_eq : List Str := ["self", "other"]
abbrev P_World_eq : List Str := ["self", "other"]
theorem sc_World_eq : FnScope N_World_eq P_World_eq (defScope s_World_eq) := ⟨rfl, rfl, rfl, by decide +kernel, rfl, by decide +kernel, by decide +kernel⟩
abbrev s_World_gap : Stmt := inClass (top 18) 6
abbrev N_World_gap : List Str := ["self", "a", "b", "first"]
abbrev P_World_gap : List Str := ["self", "a", "b"]
theorem sc_World_gap : FnScope N_World_gap P_World_gap (defScope s_World_gap) := ⟨rfl, rfl, rfl, by decide +kernel, rfl, by decide +kernel, by decide +kernel⟩
abbrev s_World_keeps : Stmt := inClass (top 18) 7
abbrev N_World_keeps : List Str := ["self", "link"]
abbrev P_World_keeps : List Str := ["self", "link"]
theorem sc_World_keeps : FnScope N_World_keeps P_World_keeps (defScope s_World_keeps) := ⟨rfl, rfl, rfl, by decide +kernel, rfl, by decide +kernel, by decide +kernel⟩
abbrev s_mixed_worlds : Stmt := top 19
abbrev N_mixed_worlds : List Str := ["first", "second", "sign", "spot", "pairs", "value"]
abbrev P_mixed_worlds : List Str := ["first", "second", "sign"]
theorem sc_mixed_worlds : FnScope N_mixed_worlds P_mixed_worlds (defScope s_mixed_worlds) := ⟨rfl, rfl, rfl, by decide +kernel, rfl, by decide +kernel, by decide +kernel⟩
abbrev s_higher : Stmt := top 20
abbrev N_higher : List Str := ["first", "second"]
abbrev P_higher : List Str := ["first", "second"]
theorem sc_higher : FnScope N_higher P_higher (defScope s_higher) := ⟨rfl, rfl, rfl, by decide +kernel, rfl, by decide +kernel, by decide +kernel⟩
abbrev s_lower : Stmt := top 21
abbrev N_lower : List Str := ["first", "second"]
abbrev P_lower : List Str := ["first", "second"]
theorem sc_lower : FnScope N_lower P_lower (defScope s_lower) := ⟨rfl, rfl, rfl, by decide +kernel, rfl, by decide +kernel, by decide +kernel⟩
abbrev s_l_bag_of : Stmt := top 23
abbrev N_l_bag_of : List Str := ["_law_script", "_law_mixed", "_law_cell"]
abbrev P_l_bag_of : List Str := ["_law_script"]
theorem sc_l_bag_of : FnScope N_l_bag_of P_l_bag_of (defScope s_l_bag_of) := ⟨rfl, rfl, rfl, by decide +kernel, rfl, by decide +kernel, by decide +kernel⟩
abbrev s_l_pick : Stmt := top 24
abbrev N_l_pick : List Str := ["_law_bag", "_law_many", "_law_number", "_law_cell"]
abbrev P_l_pick : List Str := ["_law_bag", "_law_many"]
theorem sc_l_pick : FnScope N_l_pick P_l_pick (defScope s_l_pick) := ⟨rfl, rfl, rfl, by decide +kernel, rfl, by decide +kernel, by decide +kernel⟩
abbrev s_l_choice : Stmt := top 25
abbrev N_l_choice : List Str := ["_law_bag", "_law_things"]
abbrev P_l_choice : List Str := ["_law_bag", "_law_things"]
theorem sc_l_choice : FnScope N_l_choice P_l_choice (defScope s_l_choice) := ⟨rfl, rfl, rfl, by decide +kernel, rfl, by decide +kernel, by decide +kernel⟩
abbrev s_l_some : Stmt := top 26
abbrev N_l_some : List Str := ["_law_bag", "_law_things", "_law_thing"]
abbrev P_l_some : List Str := ["_law_bag", "_law_things"]
theorem sc_l_some : FnScope N_l_some P_l_some (defScope s_l_some) := ⟨rfl, rfl, rfl, by decide +kernel, rfl, by decide +kernel, by decide +kernel⟩
abbrev s_l_shuffled : Stmt := top 27
abbrev N_l_shuffled : List Str := ["_law_bag", "_law_things", "_law_rest", "_law_thing"]
abbrev P_l_shuffled : List Str := ["_law_bag", "_law_things"]
theorem sc_l_shuffled : FnScope N_l_shuffled P_l_shuffled (defScope s_l_shuffled) := ⟨rfl, rfl, rfl, by decide +kernel, rfl, by decide +kernel, by decide +kernel⟩
abbrev s_l_integer : Stmt := top 28
abbrev N_l_integer : List Str := ["_law_thing"]
abbrev P_l_integer : List Str := ["_law_thing"]
theorem sc_l_integer : FnScope N_l_integer P_l_integer (defScope s_l_integer) := ⟨rfl, rfl, rfl, by decide +kernel, rfl, by decide +kernel, by decide +kernel⟩
abbrev s_l_gcd : Stmt := top 29
abbrev N_l_gcd : List Str := ["_law_a", "_law_b", "_law_first", "_law_second", "_law_rest"]
abbrev P_l_gcd : List Str := ["_law_a", "_law_b"]
theorem sc_l_gcd : FnScope N_l_gcd P_l_gcd (defScope s_l_gcd) := ⟨rfl, rfl, rfl, by decide +kernel, rfl, by decide +kernel, by decide +kernel⟩
abbrev s_l_ratio : Stmt := top 30
abbrev N_l_ratio : List Str := ["_law_n", "_law_d", "_law_common"]
abbrev P_l_ratio : List Str := ["_law_n", "_law_d"]
theorem sc_l_ratio : FnScope N_l_ratio P_l_ratio (defScope s_l_ratio) := ⟨rfl, rfl, rfl, by decide +kernel, rfl, by decide +kernel, by decide +kernel⟩
abbrev s_l_is_ratio : Stmt := top 31
abbrev N_l_is_ratio : List Str := ["_law_thing"]
abbrev P_l_is_ratio : List Str := ["_law_thing"]
theorem sc_l_is_ratio : FnScope N_l_is_ratio P_l_is_ratio (defScope s_l_is_ratio) := ⟨rfl, rfl, rfl, by decide +kernel, rfl, by decide +kernel, by decide +kernel⟩
abbrev s_l_plus : Stmt := top 32
abbrev N_l_plus : List Str := ["_law_a", "_law_b"]
abbrev P_l_plus : List Str := ["_law_a", "_law_b"]
theorem sc_l_plus : FnScope N_l_plus P_l_plus (defScope s_l_plus) := ⟨rfl, rfl, rfl, by decide +kernel, rfl, by decide +kernel, by decide +kernel⟩
abbrev s_l_minus : Stmt := top 33
abbrev N_l_minus : List Str := ["_law_a", "_law_b"]
abbrev P_l_minus : List Str := ["_law_a", "_law_b"]
theorem sc_l_minus : FnScope N_l_minus P_l_minus (defScope s_l_minus) := ⟨rfl, rfl, rfl, by decide +kernel, rfl, by decide +kernel, by decide +kernel⟩
abbrev s_l_less : Stmt := top 34
abbrev N_l_less : List Str := ["_law_a", "_law_b"]
abbrev P_l_less : List Str := ["_law_a", "_law_b"]
theorem sc_l_less : FnScope N_l_less P_l_less (defScope s_l_less) := ⟨rfl, rfl, rfl, by decide +kernel, rfl, by decide +kernel, by decide +kernel⟩
abbrev s_l_ground : Stmt := top 35
abbrev N_l_ground : List Str := []
abbrev P_l_ground : List Str := []
theorem sc_l_ground : FnScope N_l_ground P_l_ground (defScope s_l_ground) := ⟨rfl, rfl, rfl, by decide +kernel, rfl, by decide +kernel, by decide +kernel⟩
abbrev s_l_word_drawn : Stmt := top 36
abbrev N_l_word_drawn : List Str := ["_law_bag", "_law_signs", "_law_k"]
abbrev P_l_word_drawn : List Str := ["_law_bag"]
theorem sc_l_word_drawn : FnScope N_l_word_drawn P_l_word_drawn (defScope s_l_word_drawn) := ⟨rfl, rfl, rfl, by decide +kernel, rfl, by decide +kernel, by decide +kernel⟩
abbrev s_l_whole : Stmt := top 37
abbrev N_l_whole : List Str := ["_law_bag", "_law_way"]
abbrev P_l_whole : List Str := ["_law_bag"]
theorem sc_l_whole : FnScope N_l_whole P_l_whole (defScope s_l_whole) := ⟨rfl, rfl, rfl, by decide +kernel, rfl, by decide +kernel, by decide +kernel⟩
abbrev s_l_some_spots : Stmt := top 38
abbrev N_l_some_spots : List Str := ["_law_bag", "_law_many", "_law_spots", "_law_k", "_law_name", "_law_way", "_law_spot", "_law_step"]
abbrev P_l_some_spots : List Str := ["_law_bag", "_law_many"]
theorem sc_l_some_spots : FnScope N_l_some_spots P_l_some_spots (defScope s_l_some_spots) := ⟨rfl, rfl, rfl, by decide +kernel, rfl, by decide +kernel, by decide +kernel⟩
abbrev s_l_stranger : Stmt := top 39
abbrev N_l_stranger : List Str := ["_law_bag", "_law_spots", "_law_spot", "_law_step"]
abbrev P_l_stranger : List Str := ["_law_bag", "_law_spots"]
theorem sc_l_stranger : FnScope N_l_stranger P_l_stranger (defScope s_l_stranger) := ⟨rfl, rfl, rfl, by decide +kernel, rfl, by decide +kernel, by decide +kernel⟩
abbrev s_l_spot_like : Stmt := top 40
abbrev N_l_spot_like : List Str := ["_law_thing"]
abbrev P_l_spot_like : List Str := ["_law_thing"]
theorem sc_l_spot_like : FnScope N_l_spot_like P_l_spot_like (defScope s_l_spot_like) := ⟨rfl, rfl, rfl, by decide +kernel, rfl, by decide +kernel, by decide +kernel⟩
abbrev s_l_drawn_ratio : Stmt := top 41
abbrev N_l_drawn_ratio : List Str := ["_law_bag", "_law_way"]
abbrev P_l_drawn_ratio : List Str := ["_law_bag"]
theorem sc_l_drawn_ratio : FnScope N_l_drawn_ratio P_l_drawn_ratio (defScope s_l_drawn_ratio) := ⟨rfl, rfl, rfl, by decide +kernel, rfl, by decide +kernel, by decide +kernel⟩
abbrev s_l_told_well : Stmt := top 42
abbrev N_l_told_well : List Str := ["_law_world", "_law_pairs", "_law_spots", "_law_pair", "_law_spot", "_law_told"]
abbrev P_l_told_well : List Str := ["_law_world", "_law_pairs"]
theorem sc_l_told_well : FnScope N_l_told_well P_l_told_well (defScope s_l_told_well) := ⟨rfl, rfl, rfl, by decide +kernel, rfl, by decide +kernel, by decide +kernel⟩
abbrev s_l_gaps_told_well : Stmt := top 43
abbrev N_l_gaps_told_well : List Str := ["_law_world", "_law_pairs", "_law_first", "_law_second", "_law_told", "_law_due", "_law_reach", "_law_kept"]
abbrev P_l_gaps_told_well : List Str := ["_law_world", "_law_pairs"]
theorem sc_l_gaps_told_well : FnScope N_l_gaps_told_well P_l_gaps_told_well (defScope s_l_gaps_told_well) := ⟨rfl, rfl, rfl, by decide +kernel, rfl, by decide +kernel, by decide +kernel⟩
abbrev s_l_lacks : Stmt := top 44
abbrev N_l_lacks : List Str := ["_law_e", "_law_spot"]
abbrev P_l_lacks : List Str := ["_law_e", "_law_spot"]
theorem sc_l_lacks : FnScope N_l_lacks P_l_lacks (defScope s_l_lacks) := ⟨rfl, rfl, rfl, by decide +kernel, rfl, by decide +kernel, by decide +kernel⟩
abbrev s_l_lookalikes : Stmt := top 45
abbrev N_l_lookalikes : List Str := ["_law_spot", "_law_found"]
abbrev P_l_lookalikes : List Str := ["_law_spot"]
theorem sc_l_lookalikes : FnScope N_l_lookalikes P_l_lookalikes (defScope s_l_lookalikes) := ⟨rfl, rfl, rfl, by decide +kernel, rfl, by decide +kernel, by decide +kernel⟩
abbrev s_l_strangers_refused : Stmt := top 46
abbrev N_l_strangers_refused : List Str := ["_law_world", "_law_first", "_law_second", "_law_due", "_law_told", "_law_e"]
abbrev P_l_strangers_refused : List Str := ["_law_world", "_law_first", "_law_second", "_law_due"]
theorem sc_l_strangers_refused : FnScope N_l_strangers_refused P_l_strangers_refused (defScope s_l_strangers_refused) := ⟨rfl, rfl, rfl, by decide +kernel, rfl, by decide +kernel, by decide +kernel⟩
abbrev s_l_equal_as_due : Stmt := top 47
abbrev N_l_equal_as_due : List Str := ["_law_bag", "_law_world", "_law_pairs", "_law_same", "_law_others", "_law_pair", "_law_place", "_law_step", "_law_moved", "_law_row", "_law_other", "_law_thing"]
abbrev P_l_equal_as_due : List Str := ["_law_bag", "_law_world", "_law_pairs"]
theorem sc_l_equal_as_due : FnScope N_l_equal_as_due P_l_equal_as_due (defScope s_l_equal_as_due) := ⟨rfl, rfl, rfl, by decide +kernel, rfl, by decide +kernel, by decide +kernel⟩
abbrev s_l_mixed_as_due : Stmt := top 48
abbrev N_l_mixed_as_due : List Str := ["_law_first", "_law_second", "_law_pairs", "_law_others", "_law_rest", "_law_pair", "_law_mine", "_law_lost", "_law_spot", "_law_made", "_law_way", "_law_e", "_law_table", "_law_highs", "_law_lows", "_law_above"]
abbrev P_l_mixed_as_due : List Str := ["_law_first", "_law_second", "_law_pairs", "_law_others"]
theorem sc_l_mixed_as_due : FnScope N_l_mixed_as_due P_l_mixed_as_due (defScope s_l_mixed_as_due) := ⟨rfl, rfl, rfl, by decide +kernel, rfl, by decide +kernel, by decide +kernel⟩
abbrev s_l_wrong_pair : Stmt := top 49
abbrev N_l_wrong_pair : List Str := ["_law_bag", "_law_pairs", "_law_place", "_law_spot", "_law_value", "_law_way", "_law_odd"]
abbrev P_l_wrong_pair : List Str := ["_law_bag", "_law_pairs", "_law_place"]
theorem sc_l_wrong_pair : FnScope N_l_wrong_pair P_l_wrong_pair (defScope s_l_wrong_pair) := ⟨rfl, rfl, rfl, by decide +kernel, rfl, by decide +kernel, by decide +kernel⟩
abbrev s_l_wrong_rows_refused : Stmt := top 50
abbrev N_l_wrong_rows_refused : List Str := ["_law_bag", "_law_pairs", "_law_row", "_law_due", "_law_later", "_law_made", "_law_case", "_law_e"]
abbrev P_l_wrong_rows_refused : List Str := ["_law_bag", "_law_pairs"]
theorem sc_l_wrong_rows_refused : FnScope N_l_wrong_rows_refused P_l_wrong_rows_refused (defScope s_l_wrong_rows_refused) := ⟨rfl, rfl, rfl, by decide +kernel, rfl, by decide +kernel, by decide +kernel⟩
abbrev s_l_spots_known : Stmt := top 51
abbrev N_l_spots_known : List Str := ["_law_bag", "_law_spots", "_law_spot", "_law_odd", "_law_thing"]
abbrev P_l_spots_known : List Str := ["_law_bag", "_law_spots"]
theorem sc_l_spots_known : FnScope N_l_spots_known P_l_spots_known (defScope s_l_spots_known) := ⟨rfl, rfl, rfl, by decide +kernel, rfl, by decide +kernel, by decide +kernel⟩
abbrev s_law : Stmt := top 52
abbrev N_law : List Str := ["_law_script", "_law_bag", "_law_spots", "_law_pairs", "_law_spot", "_law_others", "_law_pair", "_law_way", "_law_mine", "_law_row", "_law_first", "_law_second", "_law_strange", "_law_far", "_law_known", "_law_cases", "_law_alike", "_law_case"]
abbrev P_law : List Str := ["_law_script"]
theorem sc_law : FnScope N_law P_law (defScope s_law) := ⟨rfl, rfl, rfl, by decide +kernel, rfl, by decide +kernel, by decide +kernel⟩

def isIntegerD (d : PyData) (lo hi : Option Int) : Bool := match d with
  | .int i => (match lo with
    | some l => decide (l ≤ i)
    | none => true) && (match hi with
    | some l => decide (i ≤ l)
    | none => true)
  | _ => false
def spChoice (K : PySem.W.Frag) : Sp := fun vs H Q E => ∃ b, BagAt H b ∧ ((∃ p xs, vs = [.ref b, .ref p] ∧ SqL K H p xs ∧ 0 < xs.length ∧ xs.length ≤ 1000 ∧ ∀ v H', v ∈ xs → Kb b H H' → Q v H') ∨
  ∃ z : Str, vs = [.ref b, .str z] ∧ 0 < z.length ∧ z.length ≤ 1000 ∧ ∀ c H', c ∈ z.cps.toList → Kb b H H' → Q (.str ⟨#[c]⟩) H')
def spOne : Sp := fun vs H Q E => ∃ (b : Addr) (m : Int), vs = [.ref b, .int m] ∧ BagAt H b ∧ 0 < m ∧ m.natAbs.log2 < 9000 ∧ ∀ (r : Bool) H', Kb b H H' → Q (.bl r) H'
def spBagOf (K : PySem.W.Frag) : Sp := fun vs H Q E => ∃ p ns, vs = [.ref p] ∧ SqL K H p (List.map V.int ns) ∧ ns.length ≤ 63 ∧ (∀ i ∈ ns, i.natAbs.log2 ≤ 1048576) ∧ ∀ b H', Ex H H' → BagAt H' b → Q (.ref b) H'
def spInteger (K : PySem.W.Frag) : Sp := fun vs H Q E => ∃ v d, vs = [v] ∧ Dp K H v d ∧ Q (.bl (isIntegerD d none none)) H
def spIsInteger (K : PySem.W.Frag) : Sp := fun vs H Q E => ∃ v d lo l hi h, vs = [v, lo, hi] ∧ Dp K H v d ∧ (lo = .non ∧ l = none ∨ ∃ i, lo = .int i ∧ l = some i) ∧ (hi = .non ∧ h = none ∨ ∃ i, hi = .int i ∧ h = some i) ∧ Q (.bl (isIntegerD d l h)) H
theorem log_le {a n : Nat} (h : a < 2 ^ n) (n0 : 0 < n) : a.log2 < n := by
  by_cases z : a = 0
  · subst z; simpa using n0
  · exact (Nat.log2_lt z).mpr h
theorem app_len (a b : Str) : (a ++ b).length = a.length + b.length := by
  show (a ++ b).cps.size = a.cps.size + b.cps.size
  rw [Str.cps_append, Array.size_append]
theorem emp_app (x : Str) : Str.empty ++ x = x := TL.ext_tl (by rw [TL.tl_append]; rfl)
theorem sign_eq (c d : Nat) : decide ((⟨#[c]⟩ : Str) = ⟨#[d]⟩) = decide (c = d) := by
  have : ((⟨#[c]⟩ : Str) = ⟨#[d]⟩) ↔ c = d := by
    constructor
    · intro h
      have h2 : (#[c] : Array Nat) = #[d] := congrArg Str.cps h
      exact (Array.mk.inj h2) |> fun q => (List.cons.inj q).1
    · rintro rfl; rfl
  exact decide_eq_decide.mpr this
/-! names -/
def low (z : Str) : Prop := ∀ c ∈ z.cps.toList, 97 ≤ c ∧ c ≤ 122
def wordsV : List Str := (["days", "base", "unit", "device", "feature", "role", "job", "procedure", "takes", "uses", "read", "by", "let", "be", "tell", "in", "judge", "good", "bad", "choose", "passed", "failed", "open", "repeat", "leave", "call", "stop", "end", "size", "offset", "news", "cert", "stand", "jolt", "edition", "strike", "told", "within", "sum", "product", "quotient", "card", "spot", "row", "ground", "nobody"] : List String).map Str.ofString
structure NameIs (z : Str) : Prop where
  l1 : 1 ≤ z.length
  l2 : z.length ≤ 12
  low : low z
  own : z ∉ wordsV
structure Names (zs : List Str) : Prop where
  nd : zs.Nodup
  each : ∀ z ∈ zs, NameIs z
def spLetters : Sp := fun vs H Q E => ∃ (b : Addr) (m : Int), vs = [.ref b, .int m] ∧ BagAt H b ∧ 0 ≤ m ∧ m ≤ 100 ∧ ∀ (z : Str) H', (z.length : Int) = m → low z → Kb b H H' → Q (.str z) H'
def spWords : Sp := fun vs H Q E => vs = [] ∧ ∀ p H', H p = none → Ex H H' → H' p = some (.lst (wordsV.map V.str)) → Q (.ref p) H'
def spNamesOf : Sp := fun vs H Q E => ∃ (b : Addr) (m : Int), vs = [.ref b, .int m] ∧ BagAt H b ∧ 0 ≤ m ∧ m ≤ 20 ∧ ∀ p zs H', (zs.length : Int) = m → Names zs → Kb b H H' → H' p = some (.lst (zs.map V.str)) → Q (.ref p) H'
theorem lt_log9000 {m : Int} (h : m.natAbs < 2 ^ 20) : m.natAbs.log2 < 9000 := Nat.lt_trans (log_le h (by decide)) (by decide)
theorem joinL_len (y : List Nat) : ∀ (l : List (List Nat)), (TL.joinL y l).length ≤ (l.map List.length).sum + l.length * y.length
  | [] => Nat.zero_le _
  | [p] => by simp [TL.joinL]
  | p :: q :: r => by
    have ih := joinL_len y (q :: r)
    show (p ++ (y ++ TL.joinL y (q :: r))).length ≤ _
    rw [List.length_append, List.length_append, List.map_cons, List.sum_cons, List.length_cons (a := p), Nat.succ_mul]
    omega
theorem join_len (y : Str) (xs : List Str) : (Txt.join y xs).length ≤ (xs.map (fun x => x.length)).sum + xs.length * y.length := by
  have e : (xs.map TL.tl).map List.length = xs.map (fun x => x.length) := by
    rw [List.map_map]
    exact List.map_congr_left fun x _ => (TL.len_tl x).symm
  rw [TL.len_tl, TL.join_eq, TL.tl_join, ← e, TL.len_tl y]
  have := joinL_len (TL.tl y) (xs.map TL.tl)
  rw [List.length_map] at this
  exact this
theorem sum_le (B : Nat) : ∀ (xs : List Str), (∀ x ∈ xs, x.length ≤ B) → (xs.map (fun x => x.length)).sum ≤ xs.length * B
  | [], _ => Nat.zero_le _
  | x :: r, h => by
    rw [List.map_cons, List.sum_cons, List.length_cons, Nat.succ_mul]
    have := sum_le B r fun y hy => h y (List.mem_cons_of_mem _ hy)
    have := h x List.mem_cons_self
    omega
/-! texts and ints as data -/
theorem inV_strs (a : Str) (zs : List Str) : inV (.str a) (zs.map V.str) = decide (a ∈ zs) := by
  unfold inV
  rw [List.any_map, Bool.eq_iff_iff, List.any_eq_true, decide_eq_true_eq]
  constructor
  · rintro ⟨z, hz, e⟩
    have e' : (z == a) = true := e
    rw [← beq_iff_eq.mp e']; exact hz
  · intro h
    exact ⟨a, h, show (a == a) = true from beq_self_eq_true a⟩
theorem flat_strs (zs : List Str) : (zs.map V.str).all flatV = true := by
  rw [List.all_map, List.all_eq_true]
  intro z _
  rfl
theorem dpa_ints {K : PySem.W.Frag} {H : Hp} : ∀ (xs : List Int), DpAll K H (xs.map V.int) (xs.map PyData.int)
  | [] => .nil
  | x :: r => .cons (.int x) (dpa_ints r)
theorem dpa_strs {K : PySem.W.Frag} {H : Hp} : ∀ (xs : List Str), DpAll K H (xs.map V.str) (xs.map PyData.str)
  | [] => .nil
  | x :: r => .cons (.str x) (dpa_strs r)
theorem tupI_dp {K : PySem.W.Frag} {H : Hp} {q : Addr} {xs : List Int} (h : SqT K H q (xs.map V.int)) : Dp K H (.ref q) (.tuple (xs.map PyData.int)) := .tup h (dpa_ints xs)
theorem lstS_dp {K : PySem.W.Frag} {H : Hp} {q : Addr} {xs : List Str} (h : SqL K H q (xs.map V.str)) : Dp K H (.ref q) (.list (xs.map PyData.str)) := .lst h (dpa_strs xs)
theorem eqva_ints : ∀ (xs ys : List Int), PyData.eqvAll (xs.map PyData.int) (ys.map PyData.int) = decide (xs = ys)
  | [], [] => rfl
  | [], _ :: _ => rfl
  | _ :: _, [] => rfl
  | x :: xs, y :: ys => by rw [List.map_cons, List.map_cons, PyData.eqvAll, eqva_ints xs ys]; simp [PyData.eqv, Bool.beq_eq_decide_eq]
theorem eqv_ints (xs ys : List Int) : PyData.eqv (.tuple (xs.map PyData.int)) (.tuple (ys.map PyData.int)) = decide (xs = ys) := by rw [PyData.eqv, eqva_ints]
theorem canLay_ints : ∀ (xs : List Int), PyData.canLayAll0 (xs.map PyData.int) = true
  | [] => rfl
  | x :: r => by rw [List.map_cons, PyData.canLayAll0, canLay_ints r]; rfl
theorem depth_ints : ∀ (xs : List Int), PyData.depthAll (xs.map PyData.int) = 0
  | [] => rfl
  | x :: r => by rw [List.map_cons, PyData.depthAll, depth_ints r]; rfl
theorem shaped_ints (xs : List Int) : SeqAt.shaped (.tuple (xs.map PyData.int)) = true := by
  rw [SeqAt.shaped, PyData.canLay0, canLay_ints, PyData.depth, depth_ints]; rfl
theorem str_get {bs : List Str} {i : Nat} {x : V} (hx : (bs.map V.str)[i]? = some x) : ∃ b, bs[i]? = some b ∧ x = .str b := by
  rw [List.getElem?_map] at hx
  cases q : bs[i]? with
  | none => rw [q] at hx; cases hx
  | some b => rw [q] at hx; cases hx; exact ⟨b, rfl, rfl⟩
theorem int_get {bs : List Int} {i : Nat} {x : V} (hx : (bs.map V.int)[i]? = some x) : ∃ b, bs[i]? = some b ∧ x = .int b := by
  rw [List.getElem?_map] at hx
  cases q : bs[i]? with
  | none => rw [q] at hx; cases hx
  | some b => rw [q] at hx; cases hx; exact ⟨b, rfl, rfl⟩

open Cl in
/-! ### spots -/
theorem strOk_low {z : Str} (h : low z) : PyData.strOk z = true := by
  unfold PyData.strOk
  rw [Array.all_eq_true]
  intro i hi
  have := h (z.cps[i]) (Array.getElem_mem_toList hi)
  simp
  omega
abbrev Spot := Str × Int × Int
def keyS (z : Spot) : List Key := [.inr z.1, .inl z.2.1, .inl z.2.2]
def vS (z : Spot) : List V := [.str z.1, .int z.2.1, .int z.2.2]
def SpotX (H : Hp) (v : V) (z : Spot) : Prop := ∃ q, v = .ref q ∧ H q = some (.tup (vS z))
def spotD (z : Spot) : PyData := .tuple [.str z.1, .int z.2.1, .int z.2.2]
abbrev SpOk (z : Spot) : Prop := PyData.strOk z.1 = true
def gr : Spot := ("ground", 0, 0)
theorem spot_im {H H' : Hp} {v : V} {z : Spot} (h : SpotX H v z) (m : Im H H') : SpotX H' v z := let ⟨q, a, b⟩ := h; ⟨q, a, m _ _ trivial b⟩
theorem spot_dp {K : PySem.W.Frag} {H : Hp} {v : V} {z : Spot} (h : SpotX H v z) : Dp K H v (spotD z) := by
  obtain ⟨q, rfl, h⟩ := h
  exact .tup (.of h) (.cons (.str _) (.cons (.int _) (.cons (.int _) .nil)))
theorem spot_eqv (z w : Spot) : PyData.eqv (spotD z) (spotD w) = decide (z = w) := by
  obtain ⟨a, b, c⟩ := z
  obtain ⟨d, e, f⟩ := w
  simp [spotD, PyData.eqv, PyData.eqvAll, Bool.beq_eq_decide_eq]
theorem spot_shaped {z : Spot} (h : SpOk z) : SeqAt.shaped (spotD z) = true := by
  simp [spotD, SeqAt.shaped, PyData.canLay0, PyData.canLayAll0, PyData.depth, PyData.depthAll, h]
def isSpotD : PyData → Bool
  | .tuple [a, b, c] => isStrD a && (isIntegerD b none none && isIntegerD c none none)
  | _ => false
structure SpotsX (H : Hp) (vs : List V) (zs : List Spot) : Prop where
  len : vs.length = zs.length
  at_ : ∀ (i : Nat) v z, vs[i]? = some v → zs[i]? = some z → SpotX H v z
theorem spots_im {H H' : Hp} {vs : List V} {zs : List Spot} (h : SpotsX H vs zs) (m : Im H H') : SpotsX H' vs zs := ⟨h.len, fun i v z a b => spot_im (h.at_ i v z a b) m⟩
theorem SpotsX.get {H : Hp} {vs : List V} {zs : List Spot} (h : SpotsX H vs zs) {i : Nat} (hi : i < zs.length) : ∃ v z, vs[i]? = some v ∧ zs[i]? = some z ∧ SpotX H v z := by
  have e1 : vs[i]? = some (vs[i]'(by rw [h.len]; exact hi)) := List.getElem?_eq_getElem (by rw [h.len]; exact hi)
  have e2 : zs[i]? = some zs[i] := List.getElem?_eq_getElem hi
  exact ⟨_, _, e1, e2, h.at_ i _ _ e1 e2⟩
theorem SpotsX.nil {H : Hp} : SpotsX H [] [] := ⟨rfl, fun i v z a => by cases a⟩
theorem SpotsX.app {H : Hp} {vs : List V} {zs : List Spot} {v : V} {z : Spot} (h : SpotsX H vs zs) (s : SpotX H v z) : SpotsX H (vs ++ [v]) (zs ++ [z]) := by
  refine ⟨by rw [List.length_append, List.length_append, h.len]; rfl, fun i w y a b => ?_⟩
  by_cases c : i < vs.length
  · rw [List.getElem?_append_left c] at a
    rw [List.getElem?_append_left (by rw [← h.len]; exact c)] at b
    exact h.at_ i w y a b
  · rw [List.getElem?_append_right (by omega)] at a
    rw [List.getElem?_append_right (by have := h.len; omega), ← h.len] at b
    obtain ⟨j, hj⟩ : ∃ j, i - vs.length = j := ⟨_, rfl⟩
    rw [hj] at a b
    cases j with
    | zero => cases a; cases b; exact s
    | succ j => cases a
theorem spots_dpa {K : PySem.W.Frag} {H : Hp} : ∀ {vs : List V} {zs : List Spot}, SpotsX H vs zs → DpAll K H vs (zs.map spotD)
  | [], [], _ => .nil
  | [], _ :: _, h => by cases h.len
  | _ :: _, [], h => by cases h.len
  | v :: vs, z :: zs, h => .cons (spot_dp (h.at_ 0 v z rfl rfl)) (spots_dpa ⟨by simpa using h.len, fun i v z a b => h.at_ (i + 1) v z a b⟩)
theorem spots_lay : ∀ {zs : List Spot}, (∀ z ∈ zs, SpOk z) → PyData.canLayAll0 (zs.map spotD) = true
  | [], _ => rfl
  | z :: zs, h => by
    have h1 := h z List.mem_cons_self
    rw [List.map_cons, PyData.canLayAll0, spots_lay fun y hy => h y (List.mem_cons_of_mem _ hy)]
    simp [spotD, PyData.canLay0, PyData.canLayAll0]
    exact h1
theorem spots_depth : ∀ (zs : List Spot), PyData.depthAll (zs.map spotD) ≤ 1
  | [] => by decide
  | z :: zs => by
    have := spots_depth zs
    rw [List.map_cons, PyData.depthAll]
    have e : (spotD z).depth = 1 := by simp [spotD, PyData.depth, PyData.depthAll]
    rw [e]
    omega
theorem spots_shl {zs : List Spot} (h : ∀ z ∈ zs, SpOk z) : SeqAt.shaped (.list (zs.map spotD)) = true := by
  have := spots_depth zs
  simp [SeqAt.shaped, PyData.canLay0, PyData.depth, spots_lay h]
  omega
theorem spots_sht {zs : List Spot} (h : ∀ z ∈ zs, SpOk z) : SeqAt.shaped (.tuple (zs.map spotD)) = true := by
  have := spots_depth zs
  simp [SeqAt.shaped, PyData.canLay0, PyData.depth, spots_lay h]
  omega
theorem spots_eqa : ∀ (zs ws : List Spot), PyData.eqvAll (zs.map spotD) (ws.map spotD) = decide (zs = ws)
  | [], [] => rfl
  | [], _ :: _ => rfl
  | _ :: _, [] => rfl
  | z :: zs, w :: ws => by
    rw [List.map_cons, List.map_cons, PyData.eqvAll, spots_eqa zs ws, spot_eqv]
    by_cases a : z = w <;> by_cases b : zs = ws <;> simp [a, b]
theorem spots_any (z : Spot) (zs : List Spot) : ((zs.map spotD).any fun y => PyData.eqv y (spotD z)) = decide (z ∈ zs) := by
  induction zs with
  | nil => rfl
  | cons y ys ih =>
    rw [List.map_cons, List.any_cons, ih, spot_eqv]
    by_cases a : y = z
    · subst a; simp
    · have : ¬ z = y := fun e => a e.symm
      simp [a, this]
structure GoodS (zs : List Spot) : Prop where
  nd : zs.Nodup
  g : zs[0]? = some gr
  ok : ∀ z ∈ zs, SpOk z
  len : zs.length ≤ 100
theorem GoodS.pos {zs : List Spot} (h : GoodS zs) : 0 < zs.length := (List.getElem?_eq_some_iff.mp h.g).1
/-- a card's table of places -/
def tabS (zs : List Spot) : List (List Key × V) := zs.zipIdx.map fun p => (keyS p.1, V.int (p.2 : Nat))
theorem keyS_inj {z w : Spot} (h : keyS z = keyS w) : z = w := by
  obtain ⟨a, b, c⟩ := z
  obtain ⟨d, e, f⟩ := w
  simp only [keyS, List.cons.injEq, Sum.inr.injEq, Sum.inl.injEq, and_true] at h
  obtain ⟨rfl, rfl, rfl⟩ := h
  rfl
theorem tabS_app (zs : List Spot) (z : Spot) : tabS (zs ++ [z]) = tabS zs ++ [(keyS z, V.int (zs.length : Nat))] := by
  unfold tabS
  rw [List.zipIdx_append, List.map_append]
  simp
theorem tabS_len (zs : List Spot) : (tabS zs).length = zs.length := by simp [tabS]
theorem tabS_no {zs : List Spot} {z : Spot} (h : z ∉ zs) : valV (tabS zs) (keyS z) = none := by
  unfold valV
  rw [List.find?_eq_none.mpr]
  · rfl
  · intro kv hk e
    obtain ⟨p, hp, rfl⟩ := List.mem_map.mp hk
    have e' := keyS_inj (of_decide_eq_true e)
    exact h (e' ▸ (List.mem_zipIdx' hp).2 ▸ List.getElem_mem _)
theorem tabS_aux : ∀ (zs : List Spot) (k i : Nat) (z : Spot), zs.Nodup → zs[i]? = some z → ((zs.zipIdx k).map fun p => (keyS p.1, V.int (p.2 : Nat))).find? (fun kv => decide (kv.1 = keyS z)) = some (keyS z, .int ((k + i : Nat)))
  | [], _, _, _, _, h => by cases h
  | y :: ys, k, 0, z, nd, h => by
    cases h
    rw [List.zipIdx_cons, List.map_cons, List.find?_cons_of_pos (by simp)]
    rfl
  | y :: ys, k, i + 1, z, nd, h => by
    have h' : ys[i]? = some z := by simpa using h
    have ne : y ≠ z := fun e => (List.nodup_cons.mp nd).1 (e ▸ List.mem_of_getElem? h')
    rw [List.zipIdx_cons, List.map_cons, List.find?_cons_of_neg (by simpa using fun e => ne (keyS_inj e)), tabS_aux ys (k + 1) i z (List.nodup_cons.mp nd).2 h']
    rw [show k + 1 + i = k + (i + 1) by omega]
theorem tabS_at {zs : List Spot} {i : Nat} {z : Spot} (nd : zs.Nodup) (hi : zs[i]? = some z) : valV (tabS zs) (keyS z) = some (.int (i : Nat)) := by
  unfold valV tabS
  rw [tabS_aux zs 0 i z nd hi, Nat.zero_add]
  rfl
theorem tabS_put {zs : List Spot} {z : Spot} (h : z ∉ zs) : putK (tabS zs) (keyS z) (.int (zs.length : Nat)) = tabS (zs ++ [z]) := by
  rw [tabS_app]
  exact putK_new _ (tabS_no h)
/-! ### tables -/
def row (n : Nat) (g : Nat → Int) : List V := (List.range n).map fun j => V.int (g j)
theorem row_len (n : Nat) (g : Nat → Int) : (row n g).length = n := by simp [row]
theorem row_at {n : Nat} {g : Nat → Int} {j : Nat} (h : j < n) : (row n g)[j]? = some (.int (g j)) := by simp [row, h]
theorem row_congr {n : Nat} {g h : Nat → Int} (e : ∀ j, j < n → g j = h j) : row n g = row n h := by
  unfold row
  refine List.map_congr_left fun j hj => ?_
  rw [e j (List.mem_range.mp hj)]
theorem row_set {n : Nat} {g : Nat → Int} {b : Nat} {x : Int} (h : b < n) : (row n g).set b (.int x) = row n fun j => if j = b then x else g j := by
  refine List.ext_getElem? fun j => ?_
  by_cases hj : j < n
  · rw [row_at hj, List.getElem?_set]
    by_cases e : b = j
    · subst e
      rw [if_pos rfl, if_pos (by rw [row_len]; exact h), if_pos rfl]
    · rw [if_neg e, row_at hj, if_neg (Ne.symm e)]
  · rw [List.getElem?_eq_none (by rw [List.length_set, row_len]; omega), List.getElem?_eq_none (by rw [row_len]; omega)]
theorem row_app (n : Nat) (g : Nat → Int) : row (n + 1) g = row n g ++ [.int (g n)] := by
  unfold row
  rw [List.range_succ, List.map_append]
  rfl
theorem row_data (n : Nat) (g : Nat → Int) : row n g = ((List.range n).map g).map V.int := by
  unfold row
  rw [List.map_map]
  rfl
theorem row_eq {n : Nat} {g h : Nat → Int} : (List.range n).map g = (List.range n).map h ↔ ∀ j, j < n → g j = h j := by
  constructor
  · intro e j hj
    have := congrArg (fun l => l[j]?) e
    simpa [hj] using this
  · intro e
    exact List.map_congr_left fun j hj => e j (List.mem_range.mp hj)
/-- rows in a list of lists -/
def MatP (H : Hp) (ps : List Addr) (n : Nat) (f : Cl.Mat) : Prop := ps.length = n ∧ ps.Nodup ∧ ∀ i a, ps[i]? = some a → H a = some (.lst (row n (f i)))
def MatL (H : Hp) (p : Addr) (n : Nat) (f : Cl.Mat) : Prop := ∃ ps, H p = some (.lst (ps.map V.ref)) ∧ MatP H ps n f
theorem mat_ex {H H' : Hp} {p : Addr} {n : Nat} {f : Cl.Mat} (h : MatL H p n f) (e : Ex H H') : MatL H' p n f := let ⟨ps, a, b, c, d⟩ := h; ⟨ps, e _ _ a, b, c, fun i a h => e _ _ (d i a h)⟩
theorem mat_kb {b : Addr} {H H' : Hp} {p : Addr} {n : Nat} {f : Cl.Mat} (h : MatL H p n f) (e : Kb b H H') : MatL H' p n f := let ⟨ps, a, b, c, d⟩ := h; ⟨ps, e.at a (fun _ z => by cases z), b, c, fun i a h => e.at (d i a h) fun _ z => by cases z⟩
theorem mat_congr {H : Hp} {p : Addr} {n : Nat} {f g : Cl.Mat} (h : MatL H p n f) (e : ∀ i j, i < n → j < n → f i j = g i j) : MatL H p n g := let ⟨ps, a, b, c, d⟩ := h; ⟨ps, a, b, c, fun i q hq => by
  have := (List.getElem?_eq_some_iff.mp hq).1
  rw [d i q hq, row_congr fun j hj => e i j (by omega) hj]⟩
theorem MatP.get {H : Hp} {ps : List Addr} {n : Nat} {f : Cl.Mat} (h : MatP H ps n f) {i : Nat} (hi : i < n) : ∃ a, ps[i]? = some a ∧ H a = some (.lst (row n (f i))) := by
  have e : ps[i]? = some (ps[i]'(by rw [h.1]; exact hi)) := List.getElem?_eq_getElem (by rw [h.1]; exact hi)
  exact ⟨_, e, h.2.2 i _ e⟩
/-- rows as tuples -/
def RowsT (K : PySem.W.Frag) (H : Hp) (ws : List V) (n : Nat) (f : Cl.Mat) : Prop := ws.length = n ∧ ∀ i w, ws[i]? = some w → ∃ p, w = .ref p ∧ SqT K H p (row n (f i))
theorem rows_im {K : PySem.W.Frag} {H H' : Hp} {ws : List V} {n : Nat} {f : Cl.Mat} (h : RowsT K H ws n f) (m : Im H H') : RowsT K H' ws n f := ⟨h.1, fun i w a => let ⟨p, b, c⟩ := h.2 i w a; ⟨p, b, sqt_im c m⟩⟩
theorem rows_dpa {K : PySem.W.Frag} {H : Hp} : ∀ {ws : List V} {k n : Nat} {f : Cl.Mat}, (ws.length = k ∧ ∀ i w, ws[i]? = some w → ∃ p, w = .ref p ∧ SqT K H p (row n (f i))) → DpAll K H ws ((List.range k).map fun i => PyData.tuple (((List.range n).map (f i)).map PyData.int))
  | [], k, n, f, h => by
    have : k = 0 := h.1.symm
    subst this
    exact .nil
  | w :: ws, 0, n, f, h => by cases h.1
  | w :: ws, k + 1, n, f, h => by
    rw [List.range_succ_eq_map, List.map_cons, List.map_map (l := List.range k)]
    obtain ⟨p, rfl, hp⟩ := h.2 0 w rfl
    refine .cons (tupI_dp (by rw [← row_data]; exact hp)) ?_
    exact rows_dpa (f := fun i => f (i + 1)) ⟨by simpa using h.1, fun i w a => h.2 (i + 1) w a⟩
/-! ### cards -/
def CardAt (K : PySem.W.Frag) (C : Addr) (H : Hp) (v : V) (zs : List Spot) (n : Nat) (f : Cl.Mat) : Prop :=
  ∃ a dx d q r vs ws, v = .ref a ∧ H a = some (.ins C dx [("at", .ref d), ("spots", .ref q), ("rows", .ref r)]) ∧ H d = some (.dT (tabS zs)) ∧ SqT K H q vs ∧ SpotsX H vs zs ∧ SqT K H r ws ∧ RowsT K H ws n f
theorem card_im {K : PySem.W.Frag} {C : Addr} {H H' : Hp} {v : V} {zs : List Spot} {n : Nat} {f : Cl.Mat} (h : CardAt K C H v zs n f) (m : Im H H') : CardAt K C H' v zs n f := by
  obtain ⟨a, dx, d, q, r, vs, ws, h1, h2, h3, h4, h5, h6, h7⟩ := h
  exact ⟨a, dx, d, q, r, vs, ws, h1, ins_im h2 m, m _ _ trivial h3, sqt_im h4 m, spots_im h5 m, sqt_im h6 m, rows_im h7 m⟩
theorem card_congr {K : PySem.W.Frag} {C : Addr} {H : Hp} {v : V} {zs : List Spot} {n : Nat} {f g : Cl.Mat} (h : CardAt K C H v zs n f) (e : ∀ i j, i < n → j < n → f i j = g i j) : CardAt K C H v zs n g := by
  obtain ⟨a, dx, d, q, r, vs, ws, h1, h2, h3, h4, h5, h6, h7⟩ := h
  refine ⟨a, dx, d, q, r, vs, ws, h1, h2, h3, h4, h5, h6, h7.1, fun i w hw => ?_⟩
  obtain ⟨p, hp, hs⟩ := h7.2 i w hw
  have := (List.getElem?_eq_some_iff.mp hw).1
  have l7 := h7.1
  exact ⟨p, hp, by rw [← row_congr fun j hj => e i j (by omega) hj]; exact hs⟩
/-- a link of a card -/
abbrev CLink := Spot × Spot × Int
def LinkAt (K : PySem.W.Frag) (H : Hp) (v : V) (k : CLink) : Prop := ∃ q a b t, v = .ref q ∧ SqT K H q [a, b, .int k.2.2, .ref t] ∧ SpotX H a k.1 ∧ SpotX H b k.2.1 ∧ SqT K H t [.str "card"]
theorem link_im {K : PySem.W.Frag} {H H' : Hp} {v : V} {k : CLink} (h : LinkAt K H v k) (m : Im H H') : LinkAt K H' v k := let ⟨q, a, b, t, h1, h2, h3, h4, h5⟩ := h; ⟨q, a, b, t, h1, sqt_im h2 m, spot_im h3 m, spot_im h4 m, sqt_im h5 m⟩
def linkD (k : CLink) : PyData := .tuple [spotD k.1, spotD k.2.1, .int k.2.2, .tuple [.str "card"]]
theorem link_dp {K : PySem.W.Frag} {H : Hp} {v : V} {k : CLink} (h : LinkAt K H v k) : Dp K H v (linkD k) := by
  obtain ⟨q, a, b, t, rfl, h2, h3, h4, h5⟩ := h
  exact .tup h2 (.cons (spot_dp h3) (.cons (spot_dp h4) (.cons (.int _) (.cons (.tup h5 (.cons (.str _) .nil)) .nil))))
theorem link_eqv (k j : CLink) : PyData.eqv (linkD k) (linkD j) = decide (k = j) := by
  obtain ⟨a, b, c⟩ := k
  obtain ⟨d, e, f⟩ := j
  have h1 := spot_eqv a d
  have h2 := spot_eqv b e
  simp only [linkD, PyData.eqv, PyData.eqvAll, h1, h2]
  simp [Bool.beq_eq_decide_eq]
theorem link_any (k : CLink) (ls : List CLink) : ((ls.map linkD).any fun y => PyData.eqv y (linkD k)) = decide (k ∈ ls) := by
  induction ls with
  | nil => rfl
  | cons y ys ih =>
    rw [List.map_cons, List.any_cons, ih, link_eqv]
    by_cases a : y = k
    · subst a; simp
    · have : ¬ k = y := fun e => a e.symm
      simp [a, this]
theorem link_lay {k : CLink} (h : SpOk k.1) (h2 : SpOk k.2.1) : (linkD k).canLay0 = true := by
  have c : PyData.strOk "card" = true := by decide +kernel
  simp [linkD, spotD, PyData.canLay0, PyData.canLayAll0, c, h, h2]
theorem link_depth (k : CLink) : (linkD k).depth = 2 := by simp [linkD, spotD, PyData.depth, PyData.depthAll]
theorem link_shaped {k : CLink} (h : SpOk k.1) (h2 : SpOk k.2.1) : SeqAt.shaped (linkD k) = true := by
  simp [SeqAt.shaped, link_lay h h2, link_depth]
theorem links_shaped : ∀ {ls : List CLink}, (∀ k ∈ ls, SpOk k.1 ∧ SpOk k.2.1) → PyData.canLayAll0 (ls.map linkD) = true ∧ PyData.depthAll (ls.map linkD) ≤ 2
  | [], _ => ⟨rfl, by decide⟩
  | k :: ls, h => by
    obtain ⟨a, b⟩ := links_shaped (ls := ls) fun k hk => h k (List.mem_cons_of_mem _ hk)
    obtain ⟨c, d⟩ := h k List.mem_cons_self
    rw [List.map_cons, PyData.canLayAll0, PyData.depthAll, link_lay c d, a, link_depth]
    exact ⟨rfl, by omega⟩
theorem links_shl {ls : List CLink} (h : ∀ k ∈ ls, SpOk k.1 ∧ SpOk k.2.1) : SeqAt.shaped (.list (ls.map linkD)) = true := by
  obtain ⟨a, b⟩ := links_shaped h
  simp [SeqAt.shaped, PyData.canLay0, PyData.depth, a]
  omega
structure LinksAt (K : PySem.W.Frag) (H : Hp) (vs : List V) (ls : List CLink) : Prop where
  len : vs.length = ls.length
  at_ : ∀ (i : Nat) v k, vs[i]? = some v → ls[i]? = some k → LinkAt K H v k
theorem links_im {K : PySem.W.Frag} {H H' : Hp} {vs : List V} {ls : List CLink} (h : LinksAt K H vs ls) (m : Im H H') : LinksAt K H' vs ls := ⟨h.len, fun i v z a b => link_im (h.at_ i v z a b) m⟩
theorem LinksAt.app {K : PySem.W.Frag} {H : Hp} {vs ws : List V} {zs ys : List CLink} (h : LinksAt K H vs zs) (s : LinksAt K H ws ys) : LinksAt K H (vs ++ ws) (zs ++ ys) := by
  refine ⟨by rw [List.length_append, List.length_append, h.len, s.len], fun i w y a b => ?_⟩
  by_cases c : i < vs.length
  · rw [List.getElem?_append_left c] at a
    rw [List.getElem?_append_left (by rw [← h.len]; exact c)] at b
    exact h.at_ i w y a b
  · rw [List.getElem?_append_right (by omega)] at a
    rw [List.getElem?_append_right (by have := h.len; omega), ← h.len] at b
    exact s.at_ _ w y a b
theorem links_dpa {K : PySem.W.Frag} {H : Hp} : ∀ {vs : List V} {zs : List CLink}, LinksAt K H vs zs → DpAll K H vs (zs.map linkD)
  | [], [], _ => .nil
  | [], _ :: _, h => by cases h.len
  | _ :: _, [], h => by cases h.len
  | v :: vs, z :: zs, h => .cons (link_dp (h.at_ 0 v z rfl rfl)) (links_dpa ⟨by simpa using h.len, fun i v z a b => h.at_ (i + 1) v z a b⟩)
/-- what an error of two opposite links tells -/
def RingAt (K : PySem.W.Frag) (H : Hp) (v : V) (z w : Spot) (l m : Int) : Prop := ∃ q t1 t2, v = .ref q ∧ SqT K H q [t1, t2] ∧ LinkAt K H t1 (z, w, l) ∧ LinkAt K H t2 (w, z, m)
theorem ring_im {K : PySem.W.Frag} {H H' : Hp} {v : V} {z w : Spot} {l m : Int} (h : RingAt K H v z w l m) (e : Im H H') : RingAt K H' v z w l m := let ⟨q, a, b, h1, h2, h3, h4⟩ := h; ⟨q, a, b, h1, sqt_im h2 e, link_im h3 e, link_im h4 e⟩
theorem s_isLT {K : PySem.W.Frag} {H : Hp} {Q : VK} {p tp : Addr} {xs : List V} (h : H p = some (.lst xs)) (ht : H tp = some (.tup [.ty "list", .ty "tuple"])) (q : Q (.bl true) H) : rIsiT K [.ref p, .ref tp] H Q :=
  ⟨_, tp, [.ty "list", .ty "tuple"], .type "list", _, true, rfl, ht, .cons (.ty _) (.cons (.ty _) .nil), .base (.lst h), by
    unfold PySem.W.kitAny
    rw [show PySem.W.kitOne K (.type "list") (.type "list") = some true from kit_list (.list [])], q⟩
theorem take_step {zs : List Spot} {i : Nat} {z : Spot} (h : zs[i]? = some z) : zs.take (i + 1) = zs.take i ++ [z] := by
  rw [List.take_add_one, h]
  rfl
theorem not_before {zs : List Spot} (nd : zs.Nodup) {i : Nat} {z : Spot} (h : zs[i]? = some z) : z ∉ zs.take i := fun m => by
  obtain ⟨j, hj⟩ := List.mem_iff_getElem?.mp m
  have jl := (List.getElem?_eq_some_iff.mp hj).1
  rw [List.length_take] at jl
  rw [List.getElem?_take_of_lt (by omega)] at hj
  have a := (List.getElem?_eq_some_iff.mp h)
  have b := (List.getElem?_eq_some_iff.mp hj)
  exact List.pairwise_iff_getElem.mp nd j i b.1 a.1 (by omega) (b.2.trans a.2.symm)
theorem ref_get {bs : List Addr} {i : Nat} {x : V} (hx : (bs.map V.ref)[i]? = some x) : ∃ b, bs[i]? = some b ∧ x = .ref b := by
  rw [List.getElem?_map] at hx
  cases q : bs[i]? with
  | none => rw [q] at hx; cases hx
  | some b => rw [q] at hx; cases hx; exact ⟨b, rfl, rfl⟩
theorem kx_but {K : PySem.W.Frag} {H H' : Hp} {d : Addr} {kvs : List (List Key × V)} (hd : H d = some (.dT kvs)) (m : ∀ a o, a ≠ d → H a = some o → H' a = some o) : Kx K H H' := fun p xs => by
  have n : ∀ u, u ≠ .dT kvs → H p = some u → p ≠ d := fun u nu h z => by rw [z, hd] at h; exact nu (Option.some.inj h).symm
  constructor
  · rintro ((h | ⟨o, h⟩) | h)
    · exact .inl (.inl (m _ _ (n _ (by simp) h) h))
    · exact .inl (.inr ⟨o, m _ _ (n _ (by simp) h) h⟩)
    · exact .inr h
  · rintro ((h | ⟨o, h⟩) | h)
    · exact .inl (.inl (m _ _ (n _ (by simp) h) h))
    · exact .inl (.inr ⟨o, m _ _ (n _ (by simp) h) h⟩)
    · exact .inr h
theorem rows_data (n : Nat) (f : Cl.Mat) : SeqAt.shaped (.tuple ((List.range n).map fun i => PyData.tuple (((List.range n).map (f i)).map PyData.int))) = true := by
  have key : ∀ l : List Nat, PyData.canLayAll0 (l.map fun i => PyData.tuple (((List.range n).map (f i)).map PyData.int)) = true ∧ PyData.depthAll (l.map fun i => PyData.tuple (((List.range n).map (f i)).map PyData.int)) ≤ 1 := by
    intro l
    induction l with
    | nil => exact ⟨rfl, Nat.zero_le _⟩
    | cons i l ih =>
      rw [List.map_cons, PyData.canLayAll0, PyData.depthAll, ih.1]
      have e1 : (PyData.tuple (((List.range n).map (f i)).map PyData.int)).canLay0 = true := by rw [PyData.canLay0, canLay_ints]
      have e2 : (PyData.tuple (((List.range n).map (f i)).map PyData.int)).depth = 1 := by rw [PyData.depth, depth_ints]
      rw [e1, e2]
      exact ⟨rfl, by omega⟩
  obtain ⟨a, b⟩ := key (List.range n)
  unfold SeqAt.shaped
  rw [PyData.canLay0, PyData.depth, a, Bool.true_and]
  exact decide_eq_true (by omega)
theorem rows_eqv {n : Nat} {f g : Cl.Mat} (h : ∀ i j, i < n → j < n → f i j = g i j) : ((List.range n).map fun i => PyData.tuple (((List.range n).map (f i)).map PyData.int)) = (List.range n).map fun i => PyData.tuple (((List.range n).map (g i)).map PyData.int) :=
  List.map_congr_left fun i hi => by rw [row_eq.mpr fun j hj => h i j (List.mem_range.mp hi) hj]
theorem eq_same {K : PySem.W.Frag} {H : Hp} {Q : VK} {x y : V} {d : PyData} (hx : Dp K H x d) (hy : Dp K H y d) (sd : SeqAt.shaped d = true) (q : Q (.bl true) H) : uEq K x y H Q := by
  refine eq_data hx hy sd sd ?_
  rw [SeqAt.eqv_refl d (SeqAt.canLay_of_shaped sd)]
  exact q
theorem ne_same {K : PySem.W.Frag} {H : Hp} {Q : VK} {x y : V} {d : PyData} (hx : Dp K H x d) (hy : Dp K H y d) (sd : SeqAt.shaped d = true) (q : Q (.bl false) H) : uNe K x y H Q := by
  refine ne_data hx hy sd sd ?_
  rw [SeqAt.eqv_refl d (SeqAt.canLay_of_shaped sd)]
  exact q
theorem at_ref {qs : List Addr} {m : Nat} {a : Addr} (h : qs[m]? = some a) : atI (qs.map V.ref) (0 + (m : Int)) = some (.ref a) := by
  rw [Int.zero_add]
  exact atI_nat (by rw [List.getElem?_map, h]; rfl)
theorem at_row {n m : Nat} {g : Nat → Int} (h : m < n) : atI (row n g) (0 + (m : Int)) = some (.int (g m)) := by
  rw [Int.zero_add]
  exact atI_nat (row_at h)
theorem set_row {n m : Nat} (h : m < n) {g : Nat → Int} : ixN (row n g).length (0 + (m : Int)) = some m := by
  rw [row_len, Int.zero_add]
  unfold ixN
  rw [if_pos (by omega), if_pos (by omega)]
  rfl
theorem in_spots {K : PySem.W.Frag} {H : Hp} {Q : VK} {v : V} {p : Addr} {vs : List V} {zs : List Spot} {z : Spot} (hv : SpotX H v z) (hp : SqL K H p vs) (hx : SpotsX H vs zs) (ok : ∀ y ∈ zs, SpOk y) (o : SpOk z) (q : Q (.bl (decide (z ∈ zs))) H) : rInD K v (.ref p) H Q := by
  refine ⟨spotD z, zs.map spotD, spot_dp hv, .lst hp (spots_dpa hx), spot_shaped o, spots_shl ok, ?_⟩
  rw [spots_any]
  exact q
theorem notin_spots {K : PySem.W.Frag} {H : Hp} {Q : VK} {v : V} {p : Addr} {vs : List V} {zs : List Spot} {z : Spot} (hv : SpotX H v z) (hp : SqL K H p vs) (hx : SpotsX H vs zs) (ok : ∀ y ∈ zs, SpOk y) (o : SpOk z) (q : Q (.bl (!decide (z ∈ zs))) H) : rNotInD K v (.ref p) H Q := by
  refine ⟨spotD z, zs.map spotD, spot_dp hv, .lst hp (spots_dpa hx), spot_shaped o, spots_shl ok, ?_⟩
  rw [spots_any]
  exact q
/-! ### promises of the program's defs -/
def spIsSpot (K : PySem.W.Frag) : Sp := fun vs H Q E => ∃ v d, vs = [v] ∧ Dp K H v d ∧ Q (.bl (isSpotD d)) H
def spPlaces (K : PySem.W.Frag) : Sp := fun vs H Q E => ∃ p us zs, vs = [.ref p] ∧ SqA K H p us ∧ SpotsX H us zs ∧ GoodS zs ∧ ∀ d H', Ex H H' → H' d = some (.dT (tabS zs)) → Q (.ref d) H'
def spIsRow (K : PySem.W.Frag) : Sp := fun vs H Q E => ∃ (p : Addr) (pl n : Nat) (g : Nat → Int), vs = [.ref p, .int pl, .int n] ∧ H p = some (.lst (row n g)) ∧ pl < n ∧ n ≤ 100 ∧ g pl = 0 ∧ ∀ H', Ex H H' → Q (.bl true) H'
def spIsClosed (K : PySem.W.Frag) : Sp := fun vs H Q E => ∃ p n f, vs = [.ref p] ∧ MatL H p n f ∧ Cl.Closed n f ∧ n ≤ 100 ∧ ∀ H', Ex H H' → Q (.bl true) H'
def spCheck (K : PySem.W.Frag) : Sp := fun vs H Q E => ∃ (p : Addr) (n : Nat) (f : Cl.Mat), vs = [.ref p, .int n] ∧ MatL H p n f ∧ Cl.Closed n f ∧ n ≤ 100 ∧ ∀ H', Ex H H' → Q .non H'
def spLesser : Sp := fun vs H Q E => ∃ i j : Int, vs = [.int i, .int j] ∧ Q (.int (min i j)) H
def spWiden (K : PySem.W.Frag) : Sp := fun vs H Q E => ∃ (p q : Addr) (n : Nat) (g h : Nat → Int) (s : Int), vs = [.ref p, .int s, .ref q] ∧ SqT K H p (row n g) ∧ SqT K H q (row n h) ∧ n ≤ 100 ∧ ∀ r H', H r = none → Ex H H' → H' r = some (.lst (row n fun j => min (g j) (s + h j))) → Q (.ref r) H'
def spInitC (K : PySem.W.Frag) (C : Addr) : Sp := fun vs H Q E => ∃ x dx p r us zs n f b, vs = [.ref x, .ref p, .ref r, .bl b] ∧ H x = some (.ins C dx []) ∧ SqA K H p us ∧ SpotsX H us zs ∧ GoodS zs ∧ zs.length = n ∧ MatL H r n f ∧ Cl.Closed n f ∧
  ∀ H', (∀ a o, a ≠ x → H a = some o → H' a = some o) → CardAt K C H' (.ref x) zs n f → Q .non H'
def spPlaceOf (K : PySem.W.Frag) (C cS : Addr) : Sp := fun vs H Q E => ∃ v w zs n f z, vs = [v, w] ∧ CardAt K C H v zs n f ∧ GoodS zs ∧ SpotX H w z ∧ (∀ i : Nat, zs[i]? = some z → Q (.int i) H) ∧ (z ∉ zs → ∀ e H', Ex H H' → H' e = some (.xd [("spot", w)]) → E (.ref cS) (some e) H')
def spGet (K : PySem.W.Frag) (C : Addr) : Sp := fun vs H Q E => ∃ v t zs n f a b y z, ∃ (i j : Nat), vs = [v, .ref t] ∧ CardAt K C H v zs n f ∧ GoodS zs ∧ zs.length = n ∧ SqT K H t [a, b] ∧ SpotX H a y ∧ SpotX H b z ∧ zs[i]? = some y ∧ zs[j]? = some z ∧ ∀ H', Ex H H' → Q (.int (f i j)) H'
def spLenC (K : PySem.W.Frag) (C : Addr) : Sp := fun vs H Q E => ∃ v zs n f, vs = [v] ∧ CardAt K C H v zs n f ∧ Q (.int (zs.length : Nat)) H
def spEqC (K : PySem.W.Frag) (C : Addr) : Sp := fun vs H Q E => ∃ v w zs n f g, vs = [v, w] ∧ CardAt K C H v zs n f ∧ CardAt K C H w zs n g ∧ GoodS zs ∧ n ≤ 100 ∧ (∀ i j, i < n → j < n → f i j = g i j) ∧ ∀ H', Ex H H' → Q (.bl true) H'
def spEnter (K : PySem.W.Frag) (C cS cX : Addr) : Sp := fun vs H Q E => ∃ v a b l zs n f y z, vs = [v, a, b, .int l] ∧ CardAt K C H v zs n f ∧ GoodS zs ∧ zs.length = n ∧ Cl.Closed n f ∧ SpotX H a y ∧ SpotX H b z ∧
  (y ∉ zs → ∀ e H', Ex H H' → H' e = some (.xd [("spot", a)]) → E (.ref cS) (some e) H') ∧ (y ∈ zs → z ∉ zs → ∀ e H', Ex H H' → H' e = some (.xd [("spot", b)]) → E (.ref cS) (some e) H') ∧
  (∀ i j : Nat, zs[i]? = some y → zs[j]? = some z → (l + f j i < 0 → ∀ e r H', Ex H H' → RingAt K H' r y z l (f j i) → H' e = some (.xd [("ring", r)]) → E (.ref cX) (some e) H') ∧ (0 ≤ l + f j i → ∀ w H', Ex H H' → CardAt K C H' w zs n (Cl.add f i j l) → Q w H'))

theorem mat_ki {H H' : Hp} {p : Addr} {n : Nat} {f : Cl.Mat} (h : MatL H p n f) (e : Ki H H') : MatL H' p n f := let ⟨ps, a, b, c, d⟩ := h; ⟨ps, e _ _ (fun _ _ _ => by simp) a, b, c, fun i a h => e _ _ (fun _ _ _ => by simp) (d i a h)⟩
theorem spots_ki {H H' : Hp} {vs : List V} {zs : List Spot} (h : SpotsX H vs zs) (m : Ki H H') : SpotsX H' vs zs := ⟨h.len, fun i v z a b => let ⟨q, c, d⟩ := h.at_ i v z a b; ⟨q, c, m _ _ (fun _ _ _ => by simp [vS]) d⟩⟩
theorem ex_made {H : Hp} {x dx C : Addr} (nx : H x = none) (nd : H dx = none) (ne : dx ≠ x) : Ex H (upd (upd H dx (.own x)) x (.ins C dx [])) := (exN nd).tr (exN (by rw [upd_ne (Ne.symm ne)]; exact nx))
theorem s_mkC {K : PySem.W.Frag} {H : Hp} {C p r : Addr} {us : List V} {zs : List Spot} {n : Nat} {f : Cl.Mat} {b : Bool} {R : Addr → Hp → Prop} {E : XK} (hp : SqA K H p us) (hx : SpotsX H us zs) (G : GoodS zs) (ln : zs.length = n) (hM : MatL H r n f) (c : Cl.Closed n f)
    (k : ∀ a H2, Ex H H2 → CardAt K C H2 (.ref a) zs n f → R a H2) : ∀ x dx, H x = none → H dx = none → dx ≠ x → spInitC K C [.ref x, .ref p, .ref r, .bl b] (upd (upd H dx (.own x)) x (.ins C dx [])) (fun v H2 => v = .non ∧ R x H2) E := by
  intro x dx nx nd ne
  have e := ex_made (C := C) nx nd ne
  refine ⟨x, dx, p, r, us, zs, n, f, b, rfl, upd_same, hp.kx e.kx, spots_im hx e.im, G, ln, mat_ex hM e, c, fun H' m hc => ⟨rfl, k x H' (fun a o h => m a o (fun z => by rw [z, nx] at h; cases h) (e a o h)) hc⟩⟩

/-- [list(row) for row in rows] -/
theorem s_copyM {K : PySem.W.Frag} {σ : L2.St} {H : Hp} {p : Addr} {n i : Nat} {f : Cl.Mat} {vs : List Nat} {Q : VK} (hM : MatL H p n f) (n100 : n ≤ 100) (hw : ∀ v : V, wipe ((wipe σ vs).set i (some v)) vs = wipe σ vs) (hv : ∀ v : V, ((wipe σ vs).set i (some v))[i]? = some (some v))
    (q : ∀ D qs H', H D = none → Ex H H' → H' D = some (.lst (qs.map V.ref)) → MatP H' qs n f → (∀ a ∈ qs, a ≠ D ∧ H a = none) → Q (.ref D) H') :
    ∃ a, V.ref p = V.ref a ∧ (∃ xs, SqL K H a xs) ∧ LcR (Itl K a) (gName i) tYes (tCB (uList K) (tCons (tVar i) tNil)) vs Q σ H := by
  obtain ⟨ps, h1, M⟩ := hM
  refine lcL (.of h1) (fun D i acc H' => Ex H H' ∧ H' D = some (.lst acc) ∧ ∃ qs : List Addr, acc = qs.map V.ref ∧ qs.length = i ∧ qs.Nodup ∧ (∀ a ∈ qs, a ≠ D ∧ H a = none) ∧ ∀ j a, qs[j]? = some a → H' a = some (.lst (row n (f j)))) (fun D n => ⟨exN n, upd_same, [], rfl, rfl, .nil, (fun a h => by cases h), fun j a h => by cases h⟩) (fun D i acc H' h => h.1) ?_ ?_
  · rintro D acc H2 nD ⟨e2, hD, qs, rfl, ql, qn, qd, rows⟩
    rw [List.length_map, M.1] at ql
    exact q D qs H2 nD e2 hD ⟨ql, qn, rows⟩ qd
  · rintro D i y acc H2 nD hy ⟨e2, hD, qs, rfl, ql, qn, qd, rows⟩
    obtain ⟨pi, hpi, rfl⟩ := ref_get hy
    have il : i < n := by rw [← M.1]; exact (List.getElem?_eq_some_iff.mp hpi).1
    refine ⟨hw _, s_yes (s_iT ?_)⟩
    refine s_cb (s_cons (s_var (hv _) (s_nil ?_)))
    refine s_listL (.of (e2 _ _ (M.2.2 i pi hpi))) fun t nt => ?_
    have ntp : t ∉ qs := fun h => by
      obtain ⟨k, hk⟩ := List.mem_iff_getElem?.mp h
      rw [rows k t hk] at nt
      cases nt
    have ntD : t ≠ D := fun z => by rw [z, hD] at nt; cases nt
    have nt0 : H t = none := by
      cases q : H t with
      | none => rfl
      | some o => rw [e2 _ _ q] at nt; cases nt
    refine s_nw nt fun H3 e3 f3 => ?_
    refine ⟨_, e3 _ _ hD, by rw [List.length_map, ql]; show _ < 16777216; omega, _, ex_put nD (e2.tr e3), upd_same, qs ++ [t], by rw [List.map_append]; rfl, by rw [List.length_append, ql]; rfl, List.nodup_append.mpr ⟨qn, by simp, fun a ha b hb => by rw [List.mem_singleton.mp hb]; exact fun z => ntp (z ▸ ha)⟩, fun a ha => ?_, fun k a hk => ?_⟩
    · rcases List.mem_append.mp ha with ha | ha
      · exact qd a ha
      · rw [List.mem_singleton.mp ha]; exact ⟨ntD, nt0⟩
    · by_cases hkl : k < qs.length
      · rw [List.getElem?_append_left hkl] at hk
        rw [upd_ne (qd a (List.mem_of_getElem? hk)).1]
        exact e3 _ _ (rows k a hk)
      · rw [List.getElem?_append_right (by omega)] at hk
        obtain ⟨kk, hkk⟩ : ∃ kk, k - qs.length = kk := ⟨_, rfl⟩
        rw [hkk] at hk
        cases kk with
        | zero =>
          cases hk
          rw [upd_ne ntD, f3, show k = i by omega]
        | succ kk => cases hk
theorem set_nat {n m : Nat} (h : m < n) {g : Nat → Int} : ixN (row n g).length (m : Int) = some m := by
  rw [row_len]
  unfold ixN
  rw [if_pos (by omega), if_pos (by omega)]
  rfl
theorem nat_ref {qs : List Addr} {m : Nat} {a : Addr} (h : qs[m]? = some a) : atI (qs.map V.ref) (m : Int) = some (.ref a) := atI_nat (by rw [List.getElem?_map, h]; rfl)
theorem nat_row {n m : Nat} {g : Nat → Int} (h : m < n) : atI (row n g) (m : Int) = some (.int (g m)) := atI_nat (row_at h)
/-- one place of a table of one's own is stored -/
theorem mat_store {H H' : Hp} {qs : List Addr} {n a b : Nat} {g : Cl.Mat} {l : Int} {qa : Addr} (M : MatP H qs n g) (ha : qs[a]? = some qa) (hb : b < n) (m : ∀ x u, x ≠ qa → H x = some u → H' x = some u) (f : H' qa = some (.lst (row n fun j => if j = b then min l (g a b) else g a j))) : MatP H' qs n (Cl.put g a b l) := by
  refine ⟨M.1, M.2.1, fun i x hi => ?_⟩
  by_cases e : i = a
  · subst e
    rw [ha] at hi
    cases hi
    rw [f]
    congr 1
    congr 1
    refine row_congr fun j hj => ?_
    unfold Cl.put
    by_cases q : j = b
    · rw [if_pos q, if_pos ⟨rfl, q⟩]
    · rw [if_neg q, if_neg fun z => q z.2]
  · rw [m _ _ (fun z => e ((List.getElem?_inj (List.getElem?_eq_some_iff.mp hi).1 M.2.1).mp (hi.trans (by rw [z]; exact ha.symm)))) (M.2.2 i x hi)]
    congr 1
    congr 1
    refine row_congr fun j hj => ?_
    unfold Cl.put
    rw [if_neg fun z => e z.1]
/-! ### ratios -/
/-! ### ratios -/
abbrev big : Nat := 10 ^ 1350
theorem big_lt : big < 2 ^ 4500 := by decide +kernel
def gN (n d : Int) : Int := if 0 < d then Int.gcd n d else -(Int.gcd n d : Int)
def rN (n d : Int) : Int := n.fdiv (gN n d)
def rD (n d : Int) : Int := d.fdiv (gN n d)
abbrev Rt (K : PySem.W.Frag) (H : Hp) (v : V) (n d : Int) : Prop := ∃ p, v = .ref p ∧ SqT K H p [.int n, .int d]
structure Low (n d : Int) : Prop where
  pos : 0 < d
  one : Int.gcd n d = 1
  bn : n.natAbs ≤ big
  bd : d.natAbs ≤ big
/-- fits -/
abbrev Md (i : Int) : Prop := i.natAbs < 2 ^ 8990
def isRatD (d : PyData) : Bool := match d with
  | .tuple [.int n, .int e] => decide (1 ≤ e) && decide (Int.gcd n e = 1)
  | _ => false
def spIsRatio (K : PySem.W.Frag) : Sp := fun vs H Q E => ∃ v d, vs = [v] ∧ Dp K H v d ∧ Q (.bl (isRatD d)) H
def spGcd : Sp := fun vs H Q E => ∃ n d, vs = [.int n, .int d] ∧ Q (.int (Int.gcd n d : Int)) H
def spLRatio : Sp := fun vs H Q E => ∃ n d, vs = [.int n, .int d] ∧ Md n ∧ Md d ∧ d ≠ 0 ∧ ∀ p H', Ex H H' → H' p = some (.tup [.int (rN n d), .int (rD n d)]) → Q (.ref p) H'
def spTwo (K : PySem.W.Frag) (n d : Int → Int → Int → Int → Int) (C : Int → Int → Int → Int → Prop) : Sp := fun vs H Q E => ∃ v w n1 d1 n2 d2, vs = [v, w] ∧ Rt K H v n1 d1 ∧ Rt K H w n2 d2 ∧ Low n1 d1 ∧ Low n2 d2 ∧ C n1 d1 n2 d2 ∧ ∀ p H', Ex H H' → H' p = some (.tup [.int (rN (n n1 d1 n2 d2) (d n1 d1 n2 d2)), .int (rD (n n1 d1 n2 d2) (d n1 d1 n2 d2))]) → Q (.ref p) H'
def spTimes (K : PySem.W.Frag) : Sp := spTwo K (fun n1 _ n2 _ => n1 * n2) (fun _ d1 _ d2 => d1 * d2) (fun _ _ _ _ => True)
def spLOver (K : PySem.W.Frag) : Sp := spTwo K (fun n1 _ _ d2 => n1 * d2) (fun _ d1 n2 _ => d1 * n2) (fun _ _ n2 _ => n2 ≠ 0)
def spRatio (cN : Addr) : Sp := fun vs H Q E => ∃ n d, vs = [.int n, .int d] ∧ Md n ∧ Md d ∧ (d ≠ 0 → ∀ p H', Ex H H' → H' p = some (.tup [.int (rN n d), .int (rD n d)]) → Q (.ref p) H') ∧
  (d = 0 → ∀ e H', Ex H H' → H' e = some (.xd [("number", .int n)]) → E (.ref cN) (some e) H')
def spOver (K : PySem.W.Frag) (cN : Addr) : Sp := fun vs H Q E => ∃ v w n1 d1 n2 d2, vs = [v, w] ∧ Rt K H v n1 d1 ∧ Rt K H w n2 d2 ∧ Low n1 d1 ∧ Low n2 d2 ∧ (n2 ≠ 0 → ∀ p H', Ex H H' → H' p = some (.tup [.int (rN (n1 * d2) (d1 * n2)), .int (rD (n1 * d2) (d1 * n2))]) → Q (.ref p) H') ∧
  (n2 = 0 → ∀ e H', Ex H H' → H' e = some (.xd [("number", v)]) → E (.ref cN) (some e) H')
/-! sizes -/
theorem bound_mul {a b : Int} (ha : a.natAbs ≤ big) (hb : b.natAbs ≤ big) : (a * b).natAbs ≤ big * big := by
  rw [Int.natAbs_mul]
  exact Nat.mul_le_mul ha hb
theorem big_sq : big * big + big * big < 2 ^ 8990 := by decide +kernel
theorem md_mul {a b : Int} (ha : a.natAbs ≤ big) (hb : b.natAbs ≤ big) : Md (a * b) := by
  have h1 := bound_mul ha hb
  have h2 := big_sq
  exact Nat.lt_of_le_of_lt h1 (Nat.lt_of_le_of_lt (Nat.le_add_right _ _) h2)
theorem md_add {a b c d : Int} (ha : a.natAbs ≤ big) (hb : b.natAbs ≤ big) (hc : c.natAbs ≤ big) (hd : d.natAbs ≤ big) : Md (a * b + c * d) :=
  Nat.lt_of_le_of_lt (Nat.le_trans (Int.natAbs_add_le _ _) (Nat.add_le_add (bound_mul ha hb) (bound_mul hc hd))) big_sq
theorem md_sub {a b c d : Int} (ha : a.natAbs ≤ big) (hb : b.natAbs ≤ big) (hc : c.natAbs ≤ big) (hd : d.natAbs ≤ big) : Md (a * b - c * d) := by
  have : a * b - c * d = a * b + (-c) * d := by rw [Int.neg_mul]; omega
  rw [this]
  exact md_add ha hb (by simpa using hc) hd
theorem md_one {a : Int} (ha : a.natAbs ≤ big) : Md a := by
  have h := big_sq
  exact Nat.lt_of_le_of_lt ha (Nat.lt_of_le_of_lt (Nat.le_trans (Nat.le_mul_of_pos_right big (by decide +kernel)) (Nat.le_add_right _ _)) h)
theorem big_log {a : Nat} (h : a ≤ big) : a.log2 < 4500 := log_le (Nat.lt_of_le_of_lt h big_lt) (by decide)
theorem mulB {a b : Int} (ha : a.natAbs ≤ big) (hb : b.natAbs ≤ big) : CMulW a b := by
  have h1 := big_log ha
  have h2 := big_log hb
  unfold CMulW
  omega
theorem log_big {i : Int} (h : i.natAbs ≤ big) : i.natAbs.log2 < 4600 := Nat.lt_trans (big_log h) (by decide)
theorem ne_mul {a b : Int} (ha : 0 < a) (hb : 0 < b) : a * b ≠ 0 := Int.ne_of_gt (Int.mul_pos ha hb)
def spIsRat (K : PySem.W.Frag) : Sp := fun vs H Q E => ∃ v n d, vs = [v] ∧ Rt K H v n d ∧ Low n d ∧ Q (.bl true) H
def spPlus (K : PySem.W.Frag) : Sp := spTwo K (fun n1 d1 n2 d2 => n1 * d2 + n2 * d1) (fun _ d1 _ d2 => d1 * d2) (fun _ _ _ _ => True)
def spMinus (K : PySem.W.Frag) : Sp := spTwo K (fun n1 d1 n2 d2 => n1 * d2 - n2 * d1) (fun _ d1 _ d2 => d1 * d2) (fun _ _ _ _ => True)
def spCompare (K : PySem.W.Frag) : Sp := fun vs H Q E => ∃ v w n1 d1 n2 d2, vs = [v, w] ∧ Rt K H v n1 d1 ∧ Rt K H w n2 d2 ∧ Low n1 d1 ∧ Low n2 d2 ∧ Q (.int (if n1 * d2 < n2 * d1 then -1 else if n1 * d2 > n2 * d1 then 1 else 0)) H
def spLess (K : PySem.W.Frag) : Sp := fun vs H Q E => ∃ v w n1 d1 n2 d2, vs = [v, w] ∧ Rt K H v n1 d1 ∧ Rt K H w n2 d2 ∧ Low n1 d1 ∧ Low n2 d2 ∧ Q (.bl (decide (n1 * d2 < n2 * d1))) H
theorem rt_ex {K : PySem.W.Frag} {H H' : Hp} {v : V} {n d : Int} (h : Rt K H v n d) (e : Ex H H') : Rt K H' v n d := let ⟨p, h1, h2⟩ := h; ⟨p, h1, Ex.st h2 e⟩
theorem rt_kb {K : PySem.W.Frag} {b : Addr} {H H' : Hp} {v : V} {n d : Int} (h : Rt K H v n d) (e : Kb b H H') : Rt K H' v n d := let ⟨p, h1, h2⟩ := h; ⟨p, h1, e.t h2⟩
theorem rt_im {K : PySem.W.Frag} {H H' : Hp} {v : V} {n d : Int} (h : Rt K H v n d) (e : Im H H') : Rt K H' v n d := let ⟨p, h1, h2⟩ := h; ⟨p, h1, sqt_im h2 e⟩
/-! ### ratios as rationals -/
theorem red_n {n d : Int} (h : d ≠ 0) : rN n d = (Rat.divInt n d).num := by
  rw [Rat.num_divInt]
  unfold rN gN
  rw [Int.gcd_comm d n]
  by_cases c : 0 < d
  · rw [if_pos c, Int.fdiv_eq_ediv_of_nonneg _ (Int.natCast_nonneg _), Int.sign_eq_one_of_pos c, Int.one_mul]
  · rw [if_neg c, Int.sign_eq_neg_one_of_neg (by omega)]
    have e : n.fdiv (-(Int.gcd n d : Int)) = (-n).fdiv (Int.gcd n d : Int) := by
      have := Int.neg_fdiv_neg (-n) (Int.gcd n d : Int)
      rw [Int.neg_neg] at this
      exact this
    rw [e, Int.fdiv_eq_ediv_of_nonneg _ (Int.natCast_nonneg _), show -1 * n = -n by omega]
theorem red_d {n d : Int} (h : d ≠ 0) : rD n d = ((Rat.divInt n d).den : Int) := by
  rw [Rat.den_divInt, if_neg h]
  unfold rD gN
  rw [Int.gcd_comm d n]
  by_cases c : 0 < d
  · rw [if_pos c, Int.fdiv_eq_ediv_of_nonneg _ (Int.natCast_nonneg _)]
    obtain ⟨k, hk⟩ := Int.eq_ofNat_of_zero_le (Int.le_of_lt c)
    subst hk
    rw [Int.natAbs_natCast]
    exact (Int.natCast_ediv _ _).symm
  · rw [if_neg c]
    have e : d.fdiv (-(Int.gcd n d : Int)) = (-d).fdiv (Int.gcd n d : Int) := by
      have := Int.neg_fdiv_neg (-d) (Int.gcd n d : Int)
      rw [Int.neg_neg] at this
      exact this
    rw [e, Int.fdiv_eq_ediv_of_nonneg _ (Int.natCast_nonneg _)]
    obtain ⟨k, hk⟩ := Int.eq_ofNat_of_zero_le (show 0 ≤ -d by omega)
    have : d = -(k : Int) := by omega
    subst this
    rw [Int.natAbs_neg, Int.natAbs_natCast, Int.neg_neg]
    exact (Int.natCast_ediv _ _).symm
theorem q_mul (q r : Rat) : Rat.divInt (q.num * r.num) (q.den * r.den) = q * r := by
  have h1 : q.den ≠ 0 := q.den_nz
  have h2 : r.den ≠ 0 := r.den_nz
  rw [← Rat.divInt_mul_divInt, Rat.num_divInt_den, Rat.num_divInt_den]
theorem q_add (q r : Rat) : Rat.divInt (q.num * r.den + r.num * q.den) (q.den * r.den) = q + r := by
  have h1 : (q.den : Int) ≠ 0 := by have := q.den_nz; omega
  have h2 : (r.den : Int) ≠ 0 := by have := r.den_nz; omega
  rw [← Rat.divInt_add_divInt _ _ h1 h2, Rat.num_divInt_den, Rat.num_divInt_den]
theorem q_sub (q r : Rat) : Rat.divInt (q.num * r.den - r.num * q.den) (q.den * r.den) = q - r := by
  have h1 : (q.den : Int) ≠ 0 := by have := q.den_nz; omega
  have h2 : (r.den : Int) ≠ 0 := by have := r.den_nz; omega
  rw [← Rat.divInt_sub_divInt _ _ h1 h2, Rat.num_divInt_den, Rat.num_divInt_den]
theorem q_div (q r : Rat) : Rat.divInt (q.num * r.den) (q.den * r.num) = q / r := by
  rw [← Rat.divInt_mul_divInt, Rat.num_divInt_den, Rat.div_def]
  rw [Rat.inv_def]
theorem num_nz {r : Rat} : r.num ≠ 0 ↔ r ≠ 0 := by
  rw [Ne, Rat.num_eq_zero]
theorem q_red {n d : Int} (h : Int.gcd n d = 1) (d0 : 0 < d) : (Rat.divInt n d).num = n ∧ ((Rat.divInt n d).den : Int) = d := by
  have h0 : d ≠ 0 := by omega
  rw [← red_n h0, ← red_d h0]
  have e : gN n d = 1 := by unfold gN; rw [if_pos d0, h]; rfl
  unfold rN rD
  rw [e]
  exact ⟨Int.fdiv_one n, Int.fdiv_one d⟩
/-- bounds above and below -/
structure Sz (B : Nat) (q : Rat) : Prop where
  n : q.num.natAbs ≤ B
  d : q.den ≤ B
theorem Sz.mono {B C : Nat} {q : Rat} (h : Sz B q) (l : B ≤ C) : Sz C q := ⟨Nat.le_trans h.n l, Nat.le_trans h.d l⟩
theorem sz_int {B : Nat} {n d : Int} (h : d ≠ 0) (hn : n.natAbs ≤ B) (hd : d.natAbs ≤ B) : Sz B (Rat.divInt n d) := by
  have g1 : 0 < Int.gcd d n := Int.gcd_pos_of_ne_zero_left _ h
  refine ⟨?_, ?_⟩
  · rw [Rat.num_divInt]
    refine Nat.le_trans (Int.natAbs_ediv_le_natAbs _ _) ?_
    rw [Int.natAbs_mul, Int.natAbs_sign_of_ne_zero h, Nat.one_mul]
    exact hn
  · rw [Rat.den_divInt, if_neg h]
    exact Nat.le_trans (Nat.div_le_self _ _) hd
theorem low_q {q : Rat} (h : Sz big q) : Low q.num q.den := by
  refine ⟨?_, ?_, h.n, ?_⟩
  · have := q.den_nz; omega
  · have := q.reduced
    unfold Int.gcd
    exact this
  · rw [Int.natAbs_natCast]; exact h.d
theorem Sz.mul {B C : Nat} {q r : Rat} (h : Sz B q) (g : Sz C r) : Sz (B * C) (q * r) := by
  rw [← q_mul]
  have := q.den_nz
  have := r.den_nz
  refine sz_int ?_ ?_ ?_
  · exact_mod_cast Nat.mul_ne_zero ‹_› ‹_›
  · rw [Int.natAbs_mul]; exact Nat.mul_le_mul h.n g.n
  · rw [Int.natAbs_mul, Int.natAbs_natCast, Int.natAbs_natCast]; exact Nat.mul_le_mul h.d g.d
theorem Sz.inv {B : Nat} {q : Rat} (h : Sz B q) (z : q ≠ 0) : Sz B q⁻¹ := by
  rw [Rat.inv_def]
  exact sz_int (num_nz.mpr z) (by rw [Int.natAbs_natCast]; exact h.d) h.n
theorem Sz.div {B C : Nat} {q r : Rat} (h : Sz B q) (g : Sz C r) (z : r ≠ 0) : Sz (B * C) (q / r) := by
  rw [Rat.div_def]
  exact h.mul (g.inv z)
theorem Sz.add {B C : Nat} {q r : Rat} (h : Sz B q) (g : Sz C r) : Sz (2 * (B * C)) (q + r) := by
  rw [← q_add]
  have := q.den_nz
  have := r.den_nz
  have a1 := Nat.mul_le_mul h.n g.d
  have a2 := Nat.mul_le_mul h.d g.n
  have a3 := Nat.mul_le_mul h.d g.d
  refine sz_int ?_ ?_ ?_
  · exact_mod_cast Nat.mul_ne_zero ‹_› ‹_›
  · refine Nat.le_trans (Int.natAbs_add_le _ _) ?_
    rw [Int.natAbs_mul, Int.natAbs_natCast, Int.natAbs_mul, Int.natAbs_natCast, Nat.mul_comm r.num.natAbs]
    omega
  · rw [Int.natAbs_mul, Int.natAbs_natCast, Int.natAbs_natCast]; omega
theorem Sz.neg {B : Nat} {q : Rat} (h : Sz B q) : Sz B (-q) := ⟨by rw [Rat.neg_num, Int.natAbs_neg]; exact h.n, by rw [Rat.neg_den]; exact h.d⟩
theorem Sz.sub {B C : Nat} {q r : Rat} (h : Sz B q) (g : Sz C r) : Sz (2 * (B * C)) (q - r) := by
  rw [Rat.sub_eq_add_neg]
  exact h.add g.neg
theorem Sz.one : Sz 1 1 := ⟨by decide, by decide⟩
theorem Sz.pow {B : Nat} {q : Rat} (h : Sz B q) : ∀ k : Nat, Sz (B ^ k) (q ^ k)
  | 0 => by rw [Rat.pow_zero]; exact Sz.one
  | k + 1 => by rw [Rat.pow_succ, Nat.pow_succ]; exact (Sz.pow h k).mul h
theorem pow_nz {q : Rat} (z : q ≠ 0) (k : Nat) : q ^ k ≠ 0 := by
  induction k with
  | zero => rw [Rat.pow_zero]; decide
  | succ k ih => rw [Rat.pow_succ]; exact fun h => (Rat.mul_eq_zero.mp h).elim ih z
theorem Sz.zpow {B : Nat} {q : Rat} (h : Sz B q) (z : q ≠ 0) (b1 : 1 ≤ B) {m : Int} {k : Nat} (hm : m.natAbs ≤ k) : Sz (B ^ k) (q ^ m) := by
  have up : B ^ m.natAbs ≤ B ^ k := Nat.pow_le_pow_right b1 hm
  rcases Int.natAbs_eq m with e | e
  · rw [e, Rat.zpow_natCast, Int.natAbs_natCast] at *
    exact (h.pow _).mono up
  · rw [e, Rat.zpow_neg, Rat.zpow_natCast]
    exact ((h.pow _).inv (pow_nz z _)).mono up
theorem inv_nz {q : Rat} (z : q ≠ 0) : q⁻¹ ≠ 0 := fun h => by
  have := Rat.mul_inv_cancel q z
  rw [h, Rat.mul_zero] at this
  exact absurd this (by decide)
theorem mul_pow' (a b : Rat) : ∀ k : Nat, (a * b) ^ k = a ^ k * b ^ k
  | 0 => by rw [Rat.pow_zero, Rat.pow_zero, Rat.pow_zero, Rat.mul_one]
  | k + 1 => by rw [Rat.pow_succ, Rat.pow_succ, Rat.pow_succ, mul_pow' a b k]; grind
theorem mul_zpow' (a b : Rat) (m : Int) : (a * b) ^ m = a ^ m * b ^ m := by
  rcases Int.natAbs_eq m with e | e
  · rw [e, Rat.zpow_natCast, Rat.zpow_natCast, Rat.zpow_natCast, mul_pow']
  · rw [e, Rat.zpow_neg, Rat.zpow_natCast, Rat.zpow_neg, Rat.zpow_natCast, Rat.zpow_neg, Rat.zpow_natCast, mul_pow', Rat.inv_mul_rev, Rat.mul_comm]
theorem zpow_nat {q : Rat} (z : q ≠ 0) (x : Int) : ∀ k : Nat, (q ^ x) ^ k = q ^ (x * k)
  | 0 => by rw [Rat.pow_zero]; simp
  | k + 1 => by rw [Rat.pow_succ, zpow_nat z x k, ← Rat.zpow_add z]; congr 1; rw [Int.natCast_succ, Int.mul_add, Int.mul_one]
theorem zpow_mul' {q : Rat} (z : q ≠ 0) (x m : Int) : (q ^ x) ^ m = q ^ (x * m) := by
  rcases Int.natAbs_eq m with e | e
  · rw [e, Rat.zpow_natCast, zpow_nat z]
  · rw [e, Rat.zpow_neg, Rat.zpow_natCast, zpow_nat z, Int.mul_neg, Rat.zpow_neg]
theorem zpow_nz {q : Rat} (z : q ≠ 0) (m : Int) : q ^ m ≠ 0 := by
  rcases Int.natAbs_eq m with e | e
  · rw [e, Rat.zpow_natCast]; exact pow_nz z _
  · rw [e, Rat.zpow_neg, Rat.zpow_natCast]
    exact inv_nz (pow_nz z _)
theorem q_pow {n d : Int} : ∀ k : Nat, Rat.divInt (n ^ k) (d ^ k) = (Rat.divInt n d) ^ k
  | 0 => by rw [Int.pow_zero, Int.pow_zero, Rat.pow_zero]; rfl
  | k + 1 => by rw [Int.pow_succ, Int.pow_succ, Rat.pow_succ, ← Rat.divInt_mul_divInt, q_pow k]/-! ### ratios in the heap -/
def RQ (K : PySem.W.Frag) (H : Hp) (v : V) (q : Rat) : Prop := Rt K H v q.num q.den
theorem rq_ex {K : PySem.W.Frag} {H H' : Hp} {v : V} {q : Rat} (h : RQ K H v q) (e : Ex H H') : RQ K H' v q := rt_ex h e
theorem rq_kb {K : PySem.W.Frag} {b : Addr} {H H' : Hp} {v : V} {q : Rat} (h : RQ K H v q) (e : Kb b H H') : RQ K H' v q := rt_kb h e
theorem rq_im {K : PySem.W.Frag} {H H' : Hp} {v : V} {q : Rat} (h : RQ K H v q) (e : Im H H') : RQ K H' v q := rt_im h e
theorem rq_of {K : PySem.W.Frag} {H : Hp} {p : Addr} {n d : Int} (z : d ≠ 0) (f : H p = some (.tup [.int (rN n d), .int (rD n d)])) : RQ K H (.ref p) (Rat.divInt n d) := by
  rw [red_n z, red_d z] at f
  exact ⟨p, rfl, .of f⟩
theorem rq_rt {K : PySem.W.Frag} {H : Hp} {v : V} {n d : Int} (z : d ≠ 0) (f : Rt K H v (rN n d) (rD n d)) : RQ K H v (Rat.divInt n d) := by
  rw [red_n z, red_d z] at f
  exact f
theorem dd_nz (q r : Rat) : (q.den : Int) * r.den ≠ 0 := Int.mul_ne_zero (by have := q.den_nz; omega) (by have := r.den_nz; omega)
theorem dn_nz {q r : Rat} (h : r ≠ 0) : (q.den : Int) * r.num ≠ 0 := Int.mul_ne_zero (by have := q.den_nz; omega) (num_nz.mpr h)
section
variable {K : PySem.W.Frag} {H : Hp} {Q : VK} {E : XK} {v w : V} {q r : Rat} {cN : Addr}
theorem timesQ (h : RQ K H v q) (g : RQ K H w r) (l1 : Sz big q) (l2 : Sz big r) (k : ∀ z H', Ex H H' → RQ K H' z (q * r) → Q z H') : spTimes K [v, w] H Q E :=
  ⟨v, w, _, _, _, _, rfl, h, g, low_q l1, low_q l2, trivial, fun p H' e f => k _ H' e (by rw [← q_mul]; exact rq_of (dd_nz q r) f)⟩
theorem plusQ (h : RQ K H v q) (g : RQ K H w r) (l1 : Sz big q) (l2 : Sz big r) (k : ∀ z H', Ex H H' → RQ K H' z (q + r) → Q z H') : spPlus K [v, w] H Q E :=
  ⟨v, w, _, _, _, _, rfl, h, g, low_q l1, low_q l2, trivial, fun p H' e f => k _ H' e (by rw [← q_add]; exact rq_of (dd_nz q r) f)⟩
theorem minusQ (h : RQ K H v q) (g : RQ K H w r) (l1 : Sz big q) (l2 : Sz big r) (k : ∀ z H', Ex H H' → RQ K H' z (q - r) → Q z H') : spMinus K [v, w] H Q E :=
  ⟨v, w, _, _, _, _, rfl, h, g, low_q l1, low_q l2, trivial, fun p H' e f => k _ H' e (by rw [← q_sub]; exact rq_of (dd_nz q r) f)⟩
theorem overLQ (h : RQ K H v q) (g : RQ K H w r) (z : r ≠ 0) (l1 : Sz big q) (l2 : Sz big r) (k : ∀ z H', Ex H H' → RQ K H' z (q / r) → Q z H') : spLOver K [v, w] H Q E :=
  ⟨v, w, _, _, _, _, rfl, h, g, low_q l1, low_q l2, num_nz.mpr z, fun p H' e f => k _ H' e (by rw [← q_div]; exact rq_of (dn_nz z) f)⟩
theorem overQ (h : RQ K H v q) (g : RQ K H w r) (z : r ≠ 0) (l1 : Sz big q) (l2 : Sz big r) (k : ∀ z H', Ex H H' → RQ K H' z (q / r) → Q z H') : spOver K cN [v, w] H Q E :=
  ⟨v, w, _, _, _, _, rfl, h, g, low_q l1, low_q l2, fun _ p H' e f => k _ H' e (by rw [← q_div]; exact rq_of (dn_nz z) f), fun c => absurd c (num_nz.mpr z)⟩
theorem ratioLQ {n d : Int} (h1 : Md n) (h2 : Md d) (z : d ≠ 0) (k : ∀ z H', Ex H H' → RQ K H' z (Rat.divInt n d) → Q z H') : spLRatio [.int n, .int d] H Q E :=
  ⟨n, d, rfl, h1, h2, z, fun p H' e f => k _ H' e (rq_of z f)⟩
theorem ratioQ {n d : Int} (h1 : Md n) (h2 : Md d) (z : d ≠ 0) (k : ∀ z H', Ex H H' → RQ K H' z (Rat.divInt n d) → Q z H') : spRatio cN [.int n, .int d] H Q E :=
  ⟨n, d, rfl, h1, h2, fun _ p H' e f => k _ H' e (rq_of z f), fun c => absurd c z⟩
theorem isRatQ (h : RQ K H v q) (l : Sz big q) (k : Q (.bl true) H) : spIsRat K [v] H Q E := ⟨v, _, _, rfl, h, low_q l, k⟩
end
theorem sz_low {B : Nat} {q : Rat} (h : Sz B q) (l : B ≤ big) : Low q.num q.den := low_q (h.mono l)
theorem big_ge {k : Nat} (h : k ≤ 1300) : 10 ^ k ≤ big := Nat.le_trans (Nat.pow_le_pow_right (by decide) h) (by decide +kernel)

/-! ### ratios in rows -/
def RatX (K : PySem.W.Frag) (H : Hp) (v : V) (r : Int × Int) : Prop := ∃ q, v = .ref q ∧ SqT K H q [.int r.1, .int r.2]
theorem rat_im {K : PySem.W.Frag} {H H' : Hp} {v : V} {r : Int × Int} (h : RatX K H v r) (m : Im H H') : RatX K H' v r := let ⟨q, a, b⟩ := h; ⟨q, a, sqt_im b m⟩
theorem rat_dp {K : PySem.W.Frag} {H : Hp} {v : V} {r : Int × Int} (h : RatX K H v r) : Dp K H v (.tuple [.int r.1, .int r.2]) := by
  obtain ⟨q, rfl, h⟩ := h
  exact .tup h (.cons (.int _) (.cons (.int _) .nil))
def LowR (r : Int × Int) : Prop := 0 < r.2 ∧ Int.gcd r.1 r.2 = 1
theorem lowR_isRat {r : Int × Int} (h : LowR r) : isRatD (.tuple [.int r.1, .int r.2]) = true := by
  show (decide (1 ≤ r.2) && decide (Int.gcd r.1 r.2 = 1)) = true
  rw [h.2, decide_eq_true (show 1 ≤ r.2 by have := h.1; omega)]
  rfl
structure RatsX (K : PySem.W.Frag) (H : Hp) (vs : List V) (rs : List (Int × Int)) : Prop where
  len : vs.length = rs.length
  at_ : ∀ (i : Nat) v r, vs[i]? = some v → rs[i]? = some r → RatX K H v r
theorem rats_im {K : PySem.W.Frag} {H H' : Hp} {vs : List V} {rs : List (Int × Int)} (h : RatsX K H vs rs) (m : Im H H') : RatsX K H' vs rs := ⟨h.len, fun i v z a b => rat_im (h.at_ i v z a b) m⟩
theorem RatsX.app {K : PySem.W.Frag} {H : Hp} {vs : List V} {rs : List (Int × Int)} {v : V} {r : Int × Int} (h : RatsX K H vs rs) (a : RatX K H v r) : RatsX K H (vs ++ [v]) (rs ++ [r]) := ⟨by simp [h.len], fun i w j x y => by
  have hl := h.len
  by_cases z : i < vs.length
  · rw [List.getElem?_append_left z] at x
    rw [List.getElem?_append_left (by omega)] at y
    exact h.at_ i w j x y
  · rw [List.getElem?_append_right (by omega)] at x
    rw [List.getElem?_append_right (by omega)] at y
    rw [← hl] at y
    obtain ⟨m, hm⟩ : ∃ m, i - vs.length = m := ⟨_, rfl⟩
    rw [hm] at x y
    cases m with
    | zero => cases x; cases y; exact a
    | succ m => cases x⟩
/-! ### tables of values -/
def tabW (zs : List Spot) (vs : List V) : List (List Key × V) := (zs.zip vs).map fun p => (keyS p.1, p.2)
theorem tabW_len {zs : List Spot} {vs : List V} (h : vs.length = zs.length) : (tabW zs vs).length = zs.length := by
  unfold tabW
  rw [List.length_map, List.length_zip, h, Nat.min_self]
theorem tabW_app {zs : List Spot} {vs : List V} (h : vs.length = zs.length) (z : Spot) (v : V) : tabW (zs ++ [z]) (vs ++ [v]) = tabW zs vs ++ [(keyS z, v)] := by
  unfold tabW
  rw [List.zip_append h.symm, List.map_append]
  rfl
theorem tabW_no {zs : List Spot} {vs : List V} {z : Spot} (h : z ∉ zs) : valV (tabW zs vs) (keyS z) = none := by
  unfold valV
  rw [List.find?_eq_none.mpr]
  · rfl
  · intro kv hk e
    obtain ⟨p, hp, rfl⟩ := List.mem_map.mp hk
    have e' := keyS_inj (of_decide_eq_true e)
    exact h (e' ▸ (List.of_mem_zip hp).1)
theorem tabW_at : ∀ {zs : List Spot} {vs : List V} {i : Nat} {z : Spot} {v : V}, zs.Nodup → zs[i]? = some z → vs[i]? = some v → valV (tabW zs vs) (keyS z) = some v
  | [], _, _, _, _, _, h, _ => by cases h
  | _ :: _, [], _, _, _, _, _, h => by cases h
  | y :: ys, w :: ws, 0, z, v, nd, h, h2 => by
    cases h
    cases h2
    exact valV_pos rfl
  | y :: ys, w :: ws, i + 1, z, v, nd, h, h2 => by
    have h' : ys[i]? = some z := by simpa using h
    have ne : y ≠ z := fun e => (List.nodup_cons.mp nd).1 (e ▸ List.mem_of_getElem? h')
    have r := tabW_at (vs := ws) (i := i) (v := v) (List.nodup_cons.mp nd).2 h' (by simpa using h2)
    unfold valV tabW at r ⊢
    rw [List.zip_cons_cons, List.map_cons, List.find?_cons_of_neg (by simpa using fun e => ne (keyS_inj e))]
    exact r
theorem tabW_put {zs : List Spot} {vs : List V} {z : Spot} {v : V} (hl : vs.length = zs.length) (h : z ∉ zs) : putK (tabW zs vs) (keyS z) v = tabW (zs ++ [z]) (vs ++ [v]) := by
  rw [tabW_app hl]
  exact putK_new _ (tabW_no h)
theorem tabW_key {zs : List Spot} {vs : List V} (hl : vs.length = zs.length) {i : Nat} {z : Spot} (h : zs[i]? = some z) : ∃ w, (tabW zs vs)[i]? = some (keyS z, w) := by
  have il := (List.getElem?_eq_some_iff.mp h).1
  have e : (zs.zip vs)[i]? = some (z, vs[i]'(by omega)) := List.getElem?_zip_eq_some.mpr ⟨h, List.getElem?_eq_getElem _⟩
  refine ⟨vs[i]'(by omega), ?_⟩
  unfold tabW
  rw [List.getElem?_map, e]
  rfl
theorem keyS_v (z : Spot) : (keyS z).map kV = vS z := rfl
/-! ### worlds -/
def WorldAt (K : PySem.W.Frag) (C : Addr) (H : Hp) (v : V) (zs : List Spot) (rs : List (Int × Int)) : Prop :=
  ∃ a dx d vs, v = .ref a ∧ H a = some (.ins C dx [("table", .ref d)]) ∧ H d = some (.dT (tabW zs vs)) ∧ vs.length = zs.length ∧ RatsX K H vs rs
theorem world_ex {K : PySem.W.Frag} {C : Addr} {H H' : Hp} {v : V} {zs : List Spot} {rs : List (Int × Int)} (h : WorldAt K C H v zs rs) (e : Ex H H') : WorldAt K C H' v zs rs := let ⟨a, dx, d, vs, h1, h2, h3, h4, h5⟩ := h; ⟨a, dx, d, vs, h1, e _ _ h2, e _ _ h3, h4, rats_im h5 e.im⟩
structure GoodW (zs : List Spot) (rs : List (Int × Int)) : Prop where
  z : GoodS zs
  len : rs.length = zs.length
  g : rs[0]? = some (0, 1)
  low : ∀ r ∈ rs, LowR r
/-- rows of pairs (spot, ratio) -/
structure PairsX (K : PySem.W.Frag) (H : Hp) (us : List V) (zs : List Spot) (rs : List (Int × Int)) : Prop where
  l1 : us.length = zs.length
  at_ : ∀ (i : Nat) u z r, us[i]? = some u → zs[i]? = some z → rs[i]? = some r → ∃ q a b, u = .ref q ∧ SqT K H q [a, b] ∧ SpotX H a z ∧ RatX K H b r
theorem prs_im {K : PySem.W.Frag} {H H' : Hp} {us : List V} {zs : List Spot} {rs : List (Int × Int)} (h : PairsX K H us zs rs) (m : Im H H') : PairsX K H' us zs rs := ⟨h.l1, fun i u z r a b c => let ⟨q, x, y, h1, h2, h3, h4⟩ := h.at_ i u z r a b c; ⟨q, x, y, h1, sqt_im h2 m, spot_im h3 m, rat_im h4 m⟩⟩
def spTable (K : PySem.W.Frag) : Sp := fun vs H Q E => ∃ p us zs rs, vs = [.ref p] ∧ H p = some (.lst us) ∧ PairsX K H us zs rs ∧ GoodW zs rs ∧ ∀ d ws H', Ex H H' → H' d = some (.dT (tabW zs ws)) → ws.length = zs.length → RatsX K H' ws rs → Q (.ref d) H'
def spInitW (K : PySem.W.Frag) (C : Addr) : Sp := fun vs H Q E => ∃ x dx p us zs rs, vs = [.ref x, .ref p] ∧ H x = some (.ins C dx []) ∧ H p = some (.lst us) ∧ PairsX K H us zs rs ∧ GoodW zs rs ∧
  ∀ H', (∀ a o, a ≠ x → H a = some o → H' a = some o) → WorldAt K C H' (.ref x) zs rs → Q .non H'
def spGetW (K : PySem.W.Frag) (C : Addr) : Sp := fun vs H Q E => ∃ v w zs rs z r, ∃ i : Nat, vs = [v, w] ∧ WorldAt K C H v zs rs ∧ GoodW zs rs ∧ SpotX H w z ∧ zs[i]? = some z ∧ rs[i]? = some r ∧ ∀ u, RatX K H u r → Q u H
def spIterW (C : Addr) : Sp := fun vs H Q E => ∃ a dx d kvs, vs = [.ref a] ∧ H a = some (.ins C dx [("table", .ref d)]) ∧ H d = some (.dT kvs) ∧ ∀ it od, H it = none → Q (.ref it) (upd (upd H d (.frz od (.dT kvs))) it (ItKs d od kvs.length it))
def spLenW (C : Addr) : Sp := fun vs H Q E => ∃ a dx d kvs, vs = [.ref a] ∧ H a = some (.ins C dx [("table", .ref d)]) ∧ Rd H d (.dT kvs) ∧ Q (.int (kvs.length : Nat)) H
theorem s_listW {K : PySem.W.Frag} {H : Hp} {Q : VK} {C a dx d : Addr} {zs : List Spot} {vs : List V} (ha : H a = some (.ins C dx [("table", .ref d)])) (hd : H d = some (.dT (tabW zs vs))) (vl : vs.length = zs.length) (zl : zs.length ≤ 100)
    (q : ∀ p ws H', Ex H H' → H' p = some (.lst ws) → SpotsX H' ws zs → Q (.ref p) H') : rListK C (spIterW C) (spLenW C) [.ref a] H Q := by
  have kl := tabW_len (zs := zs) vl
  refine ⟨a, dx, _, d, _, rfl, ha, hd, by omega, fun p np => ?_⟩
  have nap : a ≠ p := fun z => by rw [z, np] at ha; cases ha
  have ndp : d ≠ p := fun z => by rw [z, np] at hd; cases hd
  refine ⟨a, dx, d, _, rfl, (upd_ne nap).trans ha, (upd_ne ndp).trans hd, fun it od hit => ?_⟩
  have nip : it ≠ p := fun z => by rw [z, upd_same] at hit; cases hit
  rw [upd_ne nip] at hit
  have nai : a ≠ it := fun z => by rw [z, hit] at ha; cases ha
  have ndi : d ≠ it := fun z => by rw [z, hit] at hd; cases hd
  have nad : a ≠ d := fun z => by rw [z, hd] at ha; cases ha
  refine ⟨it, od, rfl, hit, nip, rfl, a, dx, d, _, rfl, (upd_ne nai).trans ((upd_ne nad).trans ((upd_ne nap).trans ha)), .inr ⟨od, (upd_ne ndi).trans upd_same⟩, _, rfl, by omega, by omega, rfl, fun ws wl hw => ?_⟩
  have ex : Ex H (upd H p (.lst ws)) := exN np
  refine q p ws _ ex upd_same ⟨by omega, fun i v z h1 h2 => ?_⟩
  obtain ⟨w, hk⟩ := tabW_key (vs := vs) vl h2
  obtain ⟨b, e, hb⟩ := hw i _ _ hk
  rw [h1] at e
  cases e
  exact ⟨b, rfl, ex _ _ hb⟩
theorem s_mkW {K : PySem.W.Frag} {H : Hp} {C p : Addr} {us : List V} {zs : List Spot} {rs : List (Int × Int)} {R : Addr → Hp → Prop} {E : XK} (hp : H p = some (.lst us)) (hx : PairsX K H us zs rs) (G : GoodW zs rs)
    (k : ∀ a H2, Ex H H2 → WorldAt K C H2 (.ref a) zs rs → R a H2) : ∀ x dx, H x = none → H dx = none → dx ≠ x → spInitW K C [.ref x, .ref p] (upd (upd H dx (.own x)) x (.ins C dx [])) (fun v H2 => v = .non ∧ R x H2) E := by
  intro x dx nx nd ne
  have e := ex_made (C := C) nx nd ne
  exact ⟨x, dx, p, us, zs, rs, rfl, upd_same, e _ _ hp, prs_im hx e.im, G, fun H' m hc => ⟨rfl, k x H' (fun a o h => m a o (fun z => by rw [z, nx] at h; cases h) (e a o h)) hc⟩⟩
structure Tp (P : Program) (K : PySem.W.Frag) (mg : Str → Option Value) (cE cS cX cN cP cW cG cZ : Addr) : Prop extends Bi mg where
  x_NoSpot : Xc.Txt P K mg "NoSpot" ["spot"] cS
  x_BadWorld : Xc.Txt P K mg "BadWorld" ["place"] cX
  x_Nought : Xc.Txt P K mg "Nought" ["number"] cN
  g_NoSpot : mg "NoSpot" = some (.ref cS)
  g_BadWorld : mg "BadWorld" = some (.ref cX)
  g_Nought : mg "Nought" = some (.ref cN)
  g_BadSpot : mg "BadSpot" = some (.ref cP)
  g_EllError : mg "EllError" = some (.ref cE)
  g_World : mg "World" = some (.ref cW)
  g_GROUND : mg "GROUND" = some (.ref cG)
  g_ZERO : mg "ZERO" = some (.ref cZ)
  g_gcd : mg "gcd" = some (.builtin "math.gcd")
  tG : ∀ H : Hp, SqT K H cG (vS gr)
  tZ : ∀ H : Hp, SqT K H cZ [.int 0, .int 1]
  mSE : PySem.W.exmOne K (.ref cS) (.ref cE) = some true
  mXE : PySem.W.exmOne K (.ref cX) (.ref cE) = some true
  oSV : PySem.W.kitOne K (.ref cS) (.type "ValueError") = some true
  oSS : PySem.W.kitOne K (.ref cS) (.ref cS) = some true
  oSO : PySem.W.kitAny K (.ref cS) [.ref cX, .ref cP] = some false
  oXV : PySem.W.kitOne K (.ref cX) (.type "ValueError") = some true
  oXX : PySem.W.kitOne K (.ref cX) (.ref cX) = some true
  oXO : PySem.W.kitAny K (.ref cX) [.ref cS, .ref cP] = some false
  eS : ExcC K cS
  xf_NoSpot : XfC K cS
  xn_NoSpot_spot : PySem.W.findIn K (.ref cS) "spot" = some none
  eX : ExcC K cX
  xf_BadWorld : XfC K cX
  xn_BadWorld_place : PySem.W.findIn K (.ref cX) "place" = some none
  clW : Cls K cW
  nTb : NoAttr K cW "table"
  gi_World : ∀ f, Meth K cW "__getitem__" f → PySem.W.fnIn K f = true
  nfW : PySem.W.notFirst K cW (.ref cW) = true
  kWW : PySem.W.kitOne K (.ref cW) (.ref cW) = some true
  tyW : ∀ (H : Hp) (a dx : Addr) (fs : List (Str × V)), H a = some (.ins cW dx fs) → TyX K H (.ref a) (.ref cW)
  nfN : PySem.W.notFirst K cW (.type "NoneType") = true
  kNW : PySem.W.kitOne K (.type "NoneType") (.ref cW) = some false
  nfI : PySem.W.notFirst K cW (.type "int") = true
  kIW : PySem.W.kitOne K (.type "int") (.ref cW) = some false
  nfT : PySem.W.notFirst K cW (.type "str") = true
  kTW : PySem.W.kitOne K (.type "str") (.ref cW) = some false
  nfU : PySem.W.notFirst K cW (.type "tuple") = true
  kUW : PySem.W.kitOne K (.type "tuple") (.ref cW) = some false
  nfL : PySem.W.notFirst K cW (.type "list") = true
  kLW : PySem.W.kitOne K (.type "list") (.ref cW) = some false
/-! ### promises of the program's defs -/
def isDimD (d : PyData) (m : Int) : Bool := match d with
  | .tuple ds => decide ((ds.length : Int) = m) && ds.all fun d => isIntegerD d (some (-9)) (some 9)
  | _ => false
/-! ### promises of the law's own -/
def spGround : Sp := fun vs H Q E => vs = [] ∧ ∀ v H', Ex H H' → SpotX H' v gr → Q v H'
def spLaw (K : PySem.W.Frag) : Sp := fun vs H Q E => ∃ p ns, vs = [.ref p] ∧ SqL K H p (List.map V.int ns) ∧ ns.length ≤ 63 ∧ (∀ i ∈ ns, i.natAbs.log2 ≤ 1048576) ∧ ∀ H', Q (.bl true) H'
theorem tyx_tup {K : PySem.W.Frag} {H : Hp} {a : Addr} {xs : List V} (h : SqT K H a xs) : TyX K H (.ref a) (.type "tuple") := by
  rcases h with (h | ⟨o, h⟩) | ⟨o, its, n, hk, hc, _⟩
  · exact .base (.tup h)
  · exact .fTuple h
  · exact .kTuple hk hc
theorem s_isTupQ {K : PySem.W.Frag} {H : Hp} {Q : VK} {a : Addr} {xs : List V} (h : SqT K H a xs) (q : Q (.bl true) H) : rIsi K [.ref a, .ty "tuple"] H Q := ⟨_, _, _, _, true, rfl, .ty _, tyx_tup h, kit_tuple (.tuple []), q⟩
def spShuffled (K : PySem.W.Frag) : Sp := fun vs H Q E => ∃ b p us, vs = [.ref b, .ref p] ∧ BagAt H b ∧ SqL K H p us ∧ us.length ≤ 1000 ∧ ∀ q ws H', Kb b H H' → ws.Perm us → H' q = some (.lst ws) → Q (.ref q) H'
def DO (σ : L2.St) (to : TO) (o : Option Int) : Prop := ∀ (H : Hp) (Q : Option Int → Hp → Prop), Q o H → to σ H Q
def cutD (ds : List PyData) (lo hi : Option Int) : List PyData := (ds.drop (HT.sIx ds.length 0 lo)).take (HT.sIx ds.length ds.length hi - HT.sIx ds.length 0 lo)
section
variable {K : PySem.W.Frag} {σ : L2.St} {H0 H : Hp}
theorem dpa_drop : ∀ (n : Nat) {vs : List V} {ds : List PyData}, DpAll K H vs ds → DpAll K H (vs.drop n) (ds.drop n)
  | 0, _, _, h => h
  | n + 1, _, _, .nil => .nil
  | n + 1, _, _, .cons _ h => dpa_drop n h
theorem dpa_take : ∀ (n : Nat) {vs : List V} {ds : List PyData}, DpAll K H vs ds → DpAll K H (vs.take n) (ds.take n)
  | 0, _, _, _ => .nil
  | n + 1, _, _, .nil => .nil
  | n + 1, _, _, .cons a h => .cons a (dpa_take n h)
theorem do_no : DO σ tNoPart none := fun H Q q => q
theorem do_v {i : Nat} {j : Int} (h : σ[i]? = some (some (.int j))) : DO σ (tPart (tVar i)) (some j) := fun H Q q => ⟨_, h, j, rfl, q⟩
theorem do_v1 {i : Nat} {j c : Int} (h : σ[i]? = some (some (.int j))) : DO σ (tPart (tOp (uAdd K) (tVar i) (tC (.int c)))) (some (j + c)) := fun H Q q => ⟨_, h, _, rfl, q⟩
theorem do_s1 {i : Nat} {j c : Int} (h : σ[i]? = some (some (.int j))) : DO σ (tPart (tOp (rI0 fun i j => .int (i - j)) (tVar i) (tC (.int c)))) (some (j - c)) := fun H Q q => ⟨_, h, j, c, rfl, rfl, _, rfl, q⟩
theorem de_v {i : Nat} {v : V} {d : PyData} (h : σ[i]? = some (some v)) (hd : Dp K H0 v d) : DE K σ H0 (tVar i) d := fun H Q e q => ⟨v, h, q v H (exR H) (dp_ex e d v hd)⟩
theorem de_sl {i : Nat} {p : Addr} {xs : List V} {ds : List PyData} {tl th : TO} {lo hi : Option Int} (h : σ[i]? = some (some (.ref p))) (hs : SqT K H0 p xs) (hd : DpAll K H0 xs ds) (hl : DO σ tl lo) (hh : DO σ th hi) : DE K σ H0 (tSl (uSl K) (tVar i) tl th) (.tuple (cutD ds lo hi)) := fun H Q e q =>
  ⟨_, h, hl H _ (hh H _ (s_slT (Ex.st hs e) fun r H' e' hr => q _ H' e' (.tup hr (by
    have ll := dpa_length hd
    unfold cutV cutD
    rw [ll]
    exact dpa_take _ (dpa_drop _ (dpa_ex (e.tr e') ds xs hd))))))⟩
theorem de_cat {te tf : TE} {ds es : List PyData} (h1 : DE K σ H0 te (.tuple ds)) (h2 : DE K σ H0 tf (.tuple es)) (l : ds.length + es.length ≤ 1000) : DE K σ H0 (tOp (uAdd K) te tf) (.tuple (ds ++ es)) := fun H Q e q =>
  h1 H _ e fun v H1 e1 hv => h2 H1 _ (e.tr e1) fun w H2 e2 hw => by
    cases hv with
    | tup hs ha =>
      cases hw with
      | tup hs2 ha2 =>
        have l1 := dpa_length ha
        have l2 := dpa_length ha2
        exact s_catT (Ex.st hs e2) hs2 (by rw [l1, l2]; exact Nat.le_trans l (by decide)) fun r H3 e3 hr => q _ H3 ((e1.tr e2).tr e3) (.tup hr (dpa_app (dpa_ex (e2.tr e3) _ _ ha) (dpa_ex e3 _ _ ha2)))
theorem da_mono {H1 : Hp} {ts : TA} {ds : List PyData} (e : Ex H0 H1) (h : DA K σ H0 ts ds) : DA K σ H1 ts ds := fun H Q e' q => h H Q (e.tr e') q
theorem dpa_rep {v : V} {d : PyData} (h : Dp K H v d) : ∀ (n : Nat), DpAll K H (List.replicate n v) (List.replicate n d)
  | 0 => .nil
  | n + 1 => .cons h (dpa_rep h n)
theorem de_rep {i n : Nat} {te : TE} {d : PyData} (h : σ[i]? = some (some (.int (n : Int)))) (n1 : 1 ≤ n) (n2 : n ≤ 1000) (hd : DE K σ H0 te d) : DE K σ H0 (tOp (uMul K) (tTup (tCons te tNil)) (tVar i)) (.tuple (List.replicate n d)) := fun H Q e q =>
  hd H _ e fun v H1 e1 hv => ⟨Nat.le_of_ble_eq_true rfl, fun p np => ⟨_, h, s_repT (xs := [v]) (.of upd_same) (by simp) (by omega) (by omega) (Nat.le_of_ble_eq_true rfl) fun r H2 e2 hr => q _ H2 ((e1.tr (exN np)).tr e2) (.tup (by rw [rep1, Int.toNat_natCast] at hr; exact hr) (dpa_rep (dp_ex ((exN np).tr e2) d v hv) n))⟩⟩
theorem cutD_len (ds : List PyData) (lo hi : Option Int) : (cutD ds lo hi).length ≤ ds.length := by
  unfold cutD
  rw [List.length_take, List.length_drop]
  omega
end
theorem dim_no {ds : List PyData} {m : Int} (h : (ds.length : Int) ≠ m ∨ ∃ d ∈ ds, isIntegerD d (some (-9)) (some 9) = false) : isDimD (.tuple ds) m = false := by
  simp only [isDimD]
  rcases h with h | ⟨d, hm, hd⟩
  · rw [decide_eq_false h]; rfl
  · rw [show (ds.all fun d => isIntegerD d (some (-9)) (some 9)) = false from List.all_eq_false.mpr ⟨d, hm, by rw [hd]; exact Bool.false_ne_true⟩, Bool.and_false]
theorem de_mul {K : PySem.W.Frag} {σ : L2.St} {H0 : Hp} {z : Str} {n : Int} (h : MulOk z n) : DE K σ H0 (tOp (uMul K) (tC (.str z)) (tC (.int n))) (.str (Txt.mul z n)) := fun H Q _ q => ⟨h, q _ H (exR H) (.str _)⟩
section
variable {K : PySem.W.Frag} {σ : L2.St} {H0 : Hp}
theorem de_vs {i : Nat} {z : Str} (h : σ[i]? = some (some (.str z))) : DE K σ H0 (tVar i) (.str z) := fun H Q _ q => ⟨_, h, q _ H (exR H) (.str z)⟩
theorem de_adds {te tf : TE} {a b : Str} (h1 : DE K σ H0 te (.str a)) (h2 : DE K σ H0 tf (.str b)) (l : a.length + b.length ≤ 100000) : DE K σ H0 (tOp (uAdd K) te tf) (.str (a ++ b)) := fun H Q e q =>
  h1 H _ e fun v H1 e1 hv => h2 H1 _ (e.tr e1) fun w H2 e2 hw => by
    cases hv
    cases hw
    exact ⟨Nat.le_trans l (by decide), q _ H2 (e1.tr e2) (.str _)⟩
end
theorem do_c {σ : L2.St} {j : Int} : DO σ (tPart (tC (.int j))) (some j) := fun H Q q => ⟨j, rfl, q⟩
/-! ### data laid out of other data -/
section
variable {K : PySem.W.Frag} {σ : L2.St} {H0 : Hp}
theorem de_ix {i j : Nat} {p : Addr} {xs : List V} {ds : List PyData} {d : PyData} (h : σ[i]? = some (some (.ref p))) (hs : SqT K H0 p xs) (hd : DpAll K H0 xs ds) (hj : ds[j]? = some d) : DE K σ H0 (tOp (rIx K) (tVar i) (tC (.int (j : Nat)))) d := fun H Q e q => by
  have l := dpa_length hd
  obtain ⟨x, hx⟩ : ∃ x, xs[j]? = some x := ⟨_, List.getElem?_eq_getElem (by rw [l]; exact (List.getElem?_eq_some_iff.mp hj).1)⟩
  obtain ⟨d', h1, _, h2⟩ := dpa_get hd hx
  rw [hj] at h1
  cases h1
  exact ⟨_, h, s_ixT (Ex.st hs e) (atI_nat hx) (q x H (exR H) (dp_ex e d x h2))⟩
theorem de_sub (a b : Int) : DE K σ H0 (tOp (rI0 fun i j => V.int (i - j)) (tC (.int a)) (tC (.int b))) (.int (a - b)) := fun H Q _ q => ⟨a, b, rfl, rfl, q _ H (exR H) (.int _)⟩
instance (a b : Int) : DEc K σ H0 (tOp (rI0 fun i j => V.int (i - j)) (tC (.int a)) (tC (.int b))) (.int (a - b)) := ⟨de_sub a b⟩
theorem de_pow {a b : Int} (h : CPow a b) : DE K σ H0 (tOp (rI CPow fun i j => V.int (i ^ j.toNat)) (tC (.int a)) (tC (.int b))) (.int (a ^ b.toNat)) := fun H Q _ q => ⟨a, b, rfl, rfl, h, q _ H (exR H) (.int _)⟩
end
theorem dpa_in {K : PySem.W.Frag} {H : Hp} {vs : List V} {ds : List PyData} {v : V} (h : DpAll K H vs ds) (m : v ∈ vs) : ∃ d ∈ ds, Dp K H v d := by
  obtain ⟨i, hi⟩ := List.mem_iff_getElem?.mp m
  obtain ⟨d, _, hm, hd⟩ := dpa_get h hi
  exact ⟨d, hm, hd⟩
theorem dpa_appD {K : PySem.W.Frag} {H : Hp} : ∀ {vs : List V} {ds : List PyData} {ws : List V} {es : List PyData}, DpAll K H vs ds → DpAll K H ws es → DpAll K H (vs ++ ws) (ds ++ es)
  | _, _, _, _, .nil, h => h
  | _, _, _, _, .cons a b, h => .cons a (dpa_appD b h)
/-! ### ratios as data -/
def ratP (q : Rat) : Int × Int := (q.num, (q.den : Int))
def ratD (q : Rat) : PyData := .tuple [.int q.num, .int (q.den : Int)]
theorem rq_dp {K : PySem.W.Frag} {H : Hp} {v : V} {q : Rat} (h : RQ K H v q) : Dp K H v (ratD q) := by
  obtain ⟨p, rfl, h⟩ := h
  exact .tup h (.cons (.int _) (.cons (.int _) .nil))
theorem ratP_low (q : Rat) : LowR (ratP q) := by
  refine ⟨?_, ?_⟩
  · have := q.den_nz
    show (0 : Int) < (q.den : Int)
    omega
  · have := q.reduced
    show Int.gcd q.num (q.den : Int) = 1
    unfold Int.gcd
    exact this
theorem ratD_is (q : Rat) : isRatD (ratD q) = true := lowR_isRat (ratP_low q)
theorem rat_ext' {q r : Rat} (h1 : q.num = r.num) (h2 : (q.den : Int) = r.den) : q = r := Rat.ext h1 (by exact_mod_cast h2)
theorem rat_eqv (q r : Rat) : PyData.eqv (ratD q) (ratD r) = decide (q = r) := by
  by_cases e : q = r
  · subst e
    simp [ratD, PyData.eqv, PyData.eqvAll]
  · rw [decide_eq_false e]
    simp only [ratD, PyData.eqv, PyData.eqvAll, Bool.and_true, Bool.and_eq_false_iff]
    by_cases a : q.num = r.num
    · right
      by_cases b : (q.den : Int) = r.den
      · exact absurd (rat_ext' a b) e
      · simpa using b
    · left
      simpa using a
theorem rat_sh (q : Rat) : SeqAt.shaped (ratD q) = true := by
  simp [ratD, SeqAt.shaped, PyData.canLay0, PyData.canLayAll0, PyData.depth, PyData.depthAll]
section
variable {K : PySem.W.Frag} {H : Hp} {Q : VK} {E : XK} {v w : V} {q r : Rat}
theorem eq_rqD (h : RQ K H v q) (g : RQ K H w r) (k : Q (.bl (decide (q = r))) H) : uEq K v w H Q := eq_data (rq_dp h) (rq_dp g) (rat_sh q) (rat_sh r) (by rw [rat_eqv]; exact k)
theorem ne_rqD (h : RQ K H v q) (g : RQ K H w r) (k : Q (.bl (!decide (q = r))) H) : uNe K v w H Q := ne_data (rq_dp h) (rq_dp g) (rat_sh q) (rat_sh r) (by rw [rat_eqv]; exact k)
theorem lessQ (h : RQ K H v q) (g : RQ K H w r) (l1 : Sz big q) (l2 : Sz big r) (k : Q (.bl (decide (q < r))) H) : spLess K [v, w] H Q E :=
  ⟨v, w, _, _, _, _, rfl, h, g, low_q l1, low_q l2, by
    rw [show decide (q.num * (r.den : Int) < r.num * (q.den : Int)) = decide (q < r) from decide_eq_decide.mpr (Rat.lt_iff _ _).symm]
    exact k⟩
def cmpQ (q r : Rat) : Int := if q < r then -1 else if r < q then 1 else 0
theorem compareQ (h : RQ K H v q) (g : RQ K H w r) (l1 : Sz big q) (l2 : Sz big r) (k : Q (.int (cmpQ q r)) H) : spCompare K [v, w] H Q E :=
  ⟨v, w, _, _, _, _, rfl, h, g, low_q l1, low_q l2, by
    unfold cmpQ at k
    have a : (q.num * (r.den : Int) < r.num * (q.den : Int)) = (q < r) := propext (Rat.lt_iff _ _).symm
    have b : (q.num * (r.den : Int) > r.num * (q.den : Int)) = (r < q) := propext (Rat.lt_iff _ _).symm
    simp only [a, b]
    exact k⟩
end
/-! ### what is judged -/
theorem sh_mem {ds : List PyData} (h : SeqAt.shaped (.tuple ds) = true) {x : PyData} (m : x ∈ ds) : SeqAt.shaped x = true := by
  rw [SeqAt.shaped, Bool.and_eq_true, decide_eq_true_eq] at h ⊢
  rw [PyData.canLay0, PyData.depth] at h
  have a : ∀ ds : List PyData, PyData.canLayAll0 ds = true → x ∈ ds → x.canLay0 = true ∧ x.depth ≤ PyData.depthAll ds := by
    intro ds
    induction ds with
    | nil => intro _ m; cases m
    | cons d r ih =>
      intro c m
      rw [PyData.canLayAll0, Bool.and_eq_true] at c
      rw [PyData.depthAll]
      rcases List.mem_cons.mp m with rfl | m
      · exact ⟨c.1, Nat.le_max_left _ _⟩
      · have := ih c.2 m
        exact ⟨this.1, Nat.le_trans this.2 (Nat.le_max_right _ _)⟩
  have b := a ds h.1 m
  exact ⟨b.1, by omega⟩
def isTermD : PyData → Bool
  | .tuple [s, r] => isSpotD s && !PyData.eqv s (spotD gr) && (isRatD r && !PyData.eqv r (.tuple [.int 0, .int 1]))
  | _ => false
def ordD : Option PyData → List PyData → Bool
  | _, [] => true
  | none, .tuple [s, _] :: r => ordD (some s) r
  | some b, .tuple [s, _] :: r => PySem.W.dataLt b s && ordD (some s) r
  | _, _ => false
def isTermsD (ts : List PyData) : Bool := ts.all isTermD && ordD none ts
def isPlainD : PyData → Bool
  | .tuple [.tuple ts, r] => isRatD r && isTermsD ts
  | _ => false
def hasDimD : PyData → Bool
  | .tuple ds => decide (1 ≤ ds.length) && decide (ds.length ≤ 4) && isDimD (.tuple ds) ds.length
  | _ => false
def isQtyD : PyData → Bool
  | .tuple [.str w, f, d] => isPlainD f && (decide (w = "sum") && hasDimD d)
  | .tuple [.str w, f, g, s, d] => isPlainD f && ((decide (w = "product") || decide (w = "quotient")) && (isPlainD g && (isRatD s && hasDimD d)))
  | _ => false
def leD : PyData → PyData → Bool
  | .tuple [.int n1, .int d1], .tuple [.int n2, .int d2] => decide (n1 * d2 ≤ n2 * d1)
  | _, _ => false
def isClaimD : PyData → Bool
  | .tuple [.str w, q, a, b] => isQtyD q && (isRatD a && (isRatD b && (if w = "within" then leD a b else (decide (w = "passed") || decide (w = "failed")) && !PyData.eqv a b)))
  | _ => false
/-- a ratio of moderate size, if it is one -/
def SmR : PyData → Prop
  | .tuple [.int n, .int d] => n.natAbs ≤ big ∧ d.natAbs ≤ big
  | _ => True
section
variable (K : PySem.W.Frag)
def spIsTerm : Sp := fun vs H Q E => ∃ v d, vs = [v] ∧ Dp K H v d ∧ SeqAt.shaped d = true ∧ Q (.bl (isTermD d)) H
def spIsPlain : Sp := fun vs H Q E => ∃ v d, vs = [v] ∧ Dp K H v d ∧ SeqAt.shaped d = true ∧ Q (.bl (isPlainD d)) H
def spHasDim : Sp := fun vs H Q E => ∃ v d, vs = [v] ∧ Dp K H v d ∧ ∀ H', Ex H H' → Q (.bl (hasDimD d)) H'
def spIsQty : Sp := fun vs H Q E => ∃ v d, vs = [v] ∧ Dp K H v d ∧ SeqAt.shaped d = true ∧ ∀ H', Ex H H' → Q (.bl (isQtyD d)) H'
def spIsClaim : Sp := fun vs H Q E => ∃ v d, vs = [v] ∧ Dp K H v d ∧ SeqAt.shaped d = true ∧ (∀ x y a b, d = .tuple [x, y, a, b] → isRatD a = true → isRatD b = true → SmR a ∧ SmR b) ∧ ∀ H', Ex H H' → Q (.bl (isClaimD d)) H'
end
/-! ### forms, quantities, claims -/
abbrev Term := Spot × Rat
structure Fm where
  ts : List Term
  r : Rat
def termD (t : Term) : PyData := .tuple [spotD t.1, ratD t.2]
def formD (f : Fm) : PyData := .tuple [.tuple (f.ts.map termD), ratD f.r]
def dimD (d : List Int) : PyData := .tuple (d.map PyData.int)
inductive Qty where
  | sum (f : Fm) (d : List Int)
  | two (k : Bool) (f g : Fm) (s : Rat) (d : List Int)
def wordQ (k : Bool) : Str := if k then "product" else "quotient"
def qtyD : Qty → PyData
  | .sum f d => .tuple [.str "sum", formD f, dimD d]
  | .two k f g s d => .tuple [.str (wordQ k), formD f, formD g, ratD s, dimD d]
structure Clm where
  w : Nat
  x : Qty
  a : Rat
  b : Rat
def wordC : Nat → Str
  | 0 => "within"
  | 1 => "passed"
  | _ => "failed"
def clmD (c : Clm) : PyData := .tuple [.str (wordC c.w), qtyD c.x, ratD c.a, ratD c.b]
section
variable (K : PySem.W.Frag) (H : Hp)
def TermAt (v : V) (t : Term) : Prop := ∃ q a b, v = .ref q ∧ SqT K H q [a, b] ∧ SpotX H a t.1 ∧ RQ K H b t.2
structure TermsAt (vs : List V) (ts : List Term) : Prop where
  len : vs.length = ts.length
  at_ : ∀ (i : Nat) v t, vs[i]? = some v → ts[i]? = some t → TermAt K H v t
def FormAt (v : V) (f : Fm) : Prop := ∃ q p us w, v = .ref q ∧ SqT K H q [.ref p, w] ∧ SqT K H p us ∧ TermsAt K H us f.ts ∧ RQ K H w f.r
def DimAt (v : V) (d : List Int) : Prop := ∃ q, v = .ref q ∧ SqT K H q (d.map V.int)
def QtyAt (v : V) : Qty → Prop
  | .sum f d => ∃ q a b, v = .ref q ∧ SqT K H q [.str "sum", a, b] ∧ FormAt K H a f ∧ DimAt K H b d
  | .two k f g s d => ∃ q a b c e, v = .ref q ∧ SqT K H q [.str (wordQ k), a, b, c, e] ∧ FormAt K H a f ∧ FormAt K H b g ∧ RQ K H c s ∧ DimAt K H e d
def ClmAt (v : V) (c : Clm) : Prop := ∃ q x a b, v = .ref q ∧ SqT K H q [.str (wordC c.w), x, a, b] ∧ QtyAt K H x c.x ∧ RQ K H a c.a ∧ RQ K H b c.b
def ValsAt (v : V) (zs : List Spot) (vals : Spot → Rat) : Prop := ∃ d vs, v = .ref d ∧ H d = some (.dT (tabW zs vs)) ∧ vs.length = zs.length ∧ RatsX K H vs (zs.map fun z => ratP (vals z))
def WorldV (C : Addr) (v : V) (zs : List Spot) (vals : Spot → Rat) : Prop := WorldAt K C H v zs (zs.map fun z => ratP (vals z))
def OptQ (v : V) : Option Rat → Prop
  | none => v = .non
  | some q => RQ K H v q
end
section
variable {K : PySem.W.Frag} {H H' : Hp} {v : V}
theorem term_im {t : Term} (h : TermAt K H v t) (m : Im H H') : TermAt K H' v t := let ⟨q, a, b, h1, h2, h3, h4⟩ := h; ⟨q, a, b, h1, sqt_im h2 m, spot_im h3 m, rq_im h4 m⟩
theorem terms_im {vs : List V} {ts : List Term} (h : TermsAt K H vs ts) (m : Im H H') : TermsAt K H' vs ts := ⟨h.len, fun i v t a b => term_im (h.at_ i v t a b) m⟩
theorem form_im {f : Fm} (h : FormAt K H v f) (m : Im H H') : FormAt K H' v f := let ⟨q, p, us, w, h1, h2, h3, h4, h5⟩ := h; ⟨q, p, us, w, h1, sqt_im h2 m, sqt_im h3 m, terms_im h4 m, rq_im h5 m⟩
theorem dimat_im {d : List Int} (h : DimAt K H v d) (m : Im H H') : DimAt K H' v d := let ⟨q, h1, h2⟩ := h; ⟨q, h1, sqt_im h2 m⟩
theorem qty_im (m : Im H H') : ∀ {x : Qty}, QtyAt K H v x → QtyAt K H' v x
  | .sum _ _, ⟨q, a, b, h1, h2, h3, h4⟩ => ⟨q, a, b, h1, sqt_im h2 m, form_im h3 m, dimat_im h4 m⟩
  | .two _ _ _ _ _, ⟨q, a, b, c, e, h1, h2, h3, h4, h5, h6⟩ => ⟨q, a, b, c, e, h1, sqt_im h2 m, form_im h3 m, form_im h4 m, rq_im h5 m, dimat_im h6 m⟩
theorem clm_im {c : Clm} (h : ClmAt K H v c) (m : Im H H') : ClmAt K H' v c := let ⟨q, x, a, b, h1, h2, h3, h4, h5⟩ := h; ⟨q, x, a, b, h1, sqt_im h2 m, qty_im m h3, rq_im h4 m, rq_im h5 m⟩
theorem worldv_im {C : Addr} {zs : List Spot} {vals : Spot → Rat} (h : WorldV K H C v zs vals) (m : Im H H') : WorldV K H' C v zs vals := let ⟨a, dx, d, vs, h1, h2, h3, h4, h5⟩ := h; ⟨a, dx, d, vs, h1, m _ _ trivial h2, m _ _ trivial h3, h4, rats_im h5 m⟩
theorem vals_im {zs : List Spot} {vals : Spot → Rat} (h : ValsAt K H v zs vals) (m : Im H H') : ValsAt K H' v zs vals := let ⟨d, vs, h1, h2, h3, h4⟩ := h; ⟨d, vs, h1, m _ _ trivial h2, h3, rats_im h4 m⟩
theorem term_dp {t : Term} (h : TermAt K H v t) : Dp K H v (termD t) := by
  obtain ⟨q, a, b, rfl, h2, h3, h4⟩ := h
  exact .tup h2 (.cons (spot_dp h3) (.cons (rq_dp h4) .nil))
theorem terms_dpa : ∀ {vs : List V} {ts : List Term}, TermsAt K H vs ts → DpAll K H vs (ts.map termD)
  | [], [], _ => .nil
  | [], _ :: _, h => by cases h.len
  | _ :: _, [], h => by cases h.len
  | v :: vs, t :: ts, h => .cons (term_dp (h.at_ 0 v t rfl rfl)) (terms_dpa ⟨by simpa using h.len, fun i v t a b => h.at_ (i + 1) v t a b⟩)
theorem form_dp {f : Fm} (h : FormAt K H v f) : Dp K H v (formD f) := by
  obtain ⟨q, p, us, w, rfl, h2, h3, h4, h5⟩ := h
  exact .tup h2 (.cons (.tup h3 (terms_dpa h4)) (.cons (rq_dp h5) .nil))
theorem dim_dp {d : List Int} (h : DimAt K H v d) : Dp K H v (dimD d) := by
  obtain ⟨q, rfl, h⟩ := h
  exact .tup h (dpa_ints _)
theorem qty_dp : ∀ {x : Qty}, QtyAt K H v x → Dp K H v (qtyD x)
  | .sum _ _, ⟨q, a, b, h1, h2, h3, h4⟩ => by subst h1; exact .tup h2 (.cons (.str _) (.cons (form_dp h3) (.cons (dim_dp h4) .nil)))
  | .two _ _ _ _ _, ⟨q, a, b, c, e, h1, h2, h3, h4, h5, h6⟩ => by subst h1; exact .tup h2 (.cons (.str _) (.cons (form_dp h3) (.cons (form_dp h4) (.cons (rq_dp h5) (.cons (dim_dp h6) .nil)))))
theorem clm_dp {c : Clm} (h : ClmAt K H v c) : Dp K H v (clmD c) := by
  obtain ⟨q, x, a, b, rfl, h2, h3, h4, h5⟩ := h
  exact .tup h2 (.cons (.str _) (.cons (qty_dp h3) (.cons (rq_dp h4) (.cons (rq_dp h5) .nil))))
end
/-! ### values -/
def valT (vals : Spot → Rat) (ts : List Term) (r : Rat) : Rat := ts.foldl (fun a t => a + t.2 * vals t.1) r
def valF (vals : Spot → Rat) (f : Fm) : Rat := valT vals f.ts f.r
def valQ (vals : Spot → Rat) : Qty → Option Rat
  | .sum f _ => some (valF vals f)
  | .two true f g s _ => some (s * (valF vals f * valF vals g))
  | .two false f g s _ => if valF vals g = 0 then none else some (s * (valF vals f / valF vals g))
def goodQ (q g n : Rat) : Bool := if g < n then decide (q ≤ g) else decide (g ≤ q)
def badQ (q g n : Rat) : Bool := if g < n then decide (n ≤ q) else decide (q ≤ n)
def denW (bad : Rat → Rat → Rat → Bool) (c : Clm) : Option Rat → Bool
  | none => true
  | some v => if c.w = 0 then decide (v < c.a) || decide (c.b < v) else if c.w = 1 then bad v c.a c.b else goodQ v c.a c.b
def Qty.ts : Qty → List Term
  | .sum f _ => f.ts
  | .two _ f g _ _ => f.ts ++ g.ts
/-- bounds -/
structure FmB (f : Fm) : Prop where
  len : f.ts.length ≤ 4
  t : ∀ t ∈ f.ts, Sz (10 ^ 20) t.2
  r : Sz (10 ^ 190) f.r
def QtyB : Qty → Prop
  | .sum f _ => FmB f
  | .two _ f g s _ => FmB f ∧ FmB g ∧ Sz (10 ^ 20) s
structure ClmB (c : Clm) : Prop where
  x : QtyB c.x
  a : Sz (10 ^ 800) c.a
  b : Sz (10 ^ 800) c.b
  w : c.w ≤ 2
def ValB (zs : List Spot) (vals : Spot → Rat) : Prop := ∀ z ∈ zs, Sz (10 ^ 20) (vals z)
/-- the first spot that a world lacks -/
def Lacks (zs : List Spot) (ts : List Term) (z : Spot) : Prop := ∃ (i : Nat) (t : Term), ts[i]? = some t ∧ t.1 = z ∧ z ∉ zs ∧ ∀ s ∈ ts.take i, s.1 ∈ zs
section
variable (K : PySem.W.Frag) (C cS : Addr)
def spGetV : Sp := fun vs H Q E => ∃ v w zs vals z, vs = [v, w] ∧ WorldV K H C v zs vals ∧ zs.Nodup ∧ SpotX H w z ∧ (z ∈ zs → ∀ u, RQ K H u (vals z) → Q u H) ∧ (z ∉ zs → ∀ e H', Ex H H' → H' e = some (.xd [("spot", w)]) → E (.ref cS) (some e) H')
/-- the end by a world that lacks a spot -/
def LackE (H : Hp) (E : XK) (zs : List Spot) (ts : List Term) : Prop := ∀ z, Lacks zs ts z → ∀ e x H', Ex H H' → SpotX H' x z → H' e = some (.xd [("spot", x)]) → E (.ref cS) (some e) H'
def spFormV : Sp := fun vs H Q E => ∃ v w zs vals f, vs = [v, w] ∧ WorldV K H C v zs vals ∧ zs.Nodup ∧ ValB zs vals ∧ FormAt K H w f ∧ FmB f ∧ ((∀ t ∈ f.ts, t.1 ∈ zs) → ∀ u H', Ex H H' → RQ K H' u (valF vals f) → Q u H') ∧ LackE cS H E zs f.ts
def spValueIn : Sp := fun vs H Q E => ∃ v w zs vals x, vs = [v, w] ∧ WorldV K H C v zs vals ∧ zs.Nodup ∧ ValB zs vals ∧ QtyAt K H w x ∧ QtyB x ∧ ((∀ t ∈ x.ts, t.1 ∈ zs) → ∀ u H', Ex H H' → OptQ K H' u (valQ vals x) → Q u H') ∧ LackE cS H E zs x.ts
def spGood : Sp := fun vs H Q E => ∃ u v w q g n, vs = [u, v, w] ∧ RQ K H u q ∧ RQ K H v g ∧ RQ K H w n ∧ Sz big q ∧ Sz big g ∧ Sz big n ∧ Q (.bl (goodQ q g n)) H
def spBad : Sp := fun vs H Q E => ∃ u v w q g n, vs = [u, v, w] ∧ RQ K H u q ∧ RQ K H v g ∧ RQ K H w n ∧ Sz big q ∧ Sz big g ∧ Sz big n ∧ Q (.bl (badQ q g n)) H
def spGoodL : Sp := spGood K
def spBadL : Sp := fun vs H Q E => ∃ u v w q g n, vs = [u, v, w] ∧ RQ K H u q ∧ RQ K H v g ∧ RQ K H w n ∧ Sz big q ∧ Sz big g ∧ Sz big n ∧ Q (.bl (goodQ q n g)) H
def spDenies : Sp := fun vs H Q E => ∃ v w zs vals c, vs = [v, w] ∧ WorldV K H C v zs vals ∧ zs.Nodup ∧ ValB zs vals ∧ ClmAt K H w c ∧ ClmB c ∧ ((∀ t ∈ c.x.ts, t.1 ∈ zs) → ∀ H', Ex H H' → Q (.bl (denW badQ c (valQ vals c.x))) H') ∧ LackE cS H E zs c.x.ts
def spPlainV : Sp := fun vs H Q E => ∃ v w zs vals f, vs = [v, w] ∧ ValsAt K H v zs vals ∧ zs.Nodup ∧ ValB zs vals ∧ FormAt K H w f ∧ FmB f ∧ (∀ t ∈ f.ts, t.1 ∈ zs) ∧ ∀ u H', Ex H H' → RQ K H' u (valF vals f) → Q u H'
def spQtyV : Sp := fun vs H Q E => ∃ v w zs vals x, vs = [v, w] ∧ ValsAt K H v zs vals ∧ zs.Nodup ∧ ValB zs vals ∧ QtyAt K H w x ∧ QtyB x ∧ (∀ t ∈ x.ts, t.1 ∈ zs) ∧ ∀ u H', Ex H H' → OptQ K H' u (valQ vals x) → Q u H'
def spDeniesL : Sp := fun vs H Q E => ∃ v w zs vals c, vs = [v, w] ∧ ValsAt K H v zs vals ∧ zs.Nodup ∧ ValB zs vals ∧ ClmAt K H w c ∧ ClmB c ∧ (∀ t ∈ c.x.ts, t.1 ∈ zs) ∧ ∀ H', Ex H H' → Q (.bl (denW (fun q g n => goodQ q n g) c (valQ vals c.x))) H'
end
/-! ### the order of spots -/
def ltS (z w : Spot) : Bool := PySem.W.dataLt (spotD z) (spotD w)
theorem toks_inj {z w : Spot} (h : PySem.W.keyToks (spotD z) = PySem.W.keyToks (spotD w)) : z = w := by
  obtain ⟨a, b, c⟩ := z
  obtain ⟨d, e, f⟩ := w
  simp only [spotD, PySem.W.keyToks, PySem.W.keyToksAll, List.cons_append, List.nil_append, List.cons.injEq, Sum.inl.injEq, Sum.inr.injEq, true_and, and_true] at h
  obtain ⟨h1, h2, h3⟩ := h
  rw [PySem.W.str_of_cps h1, h2, h3]
theorem ltS_irr (z : Spot) : ltS z z = false := PyProof.Rows.lex_irrefl _
theorem ltS_trans {a b c : Spot} (h : ltS a b = true) (g : ltS b c = true) : ltS a c = true := PyProof.Rows.lex_trans _ _ _ h g
theorem ltS_total {a b : Spot} (h : ltS a b = false) (g : ltS b a = false) : a = b := toks_inj (PyProof.Rows.lex_total _ _ h g)
def leP (p q : V × Spot) : Bool := !ltS q.2 p.2
theorem leP_trans (a b c : V × Spot) (h : leP a b = true) (g : leP b c = true) : leP a c = true := by
  unfold leP at *
  rw [Bool.not_eq_true'] at *
  cases e : ltS c.2 a.2 with
  | false => rfl
  | true =>
    cases e2 : ltS a.2 b.2 with
    | true => rw [ltS_trans e e2] at g; cases g
    | false =>
      have := ltS_total e2 h
      rw [this] at e
      rw [e] at g
      cases g
theorem leP_total (a b : V × Spot) : (leP a b || leP b a) = true := by
  unfold leP
  cases e : ltS b.2 a.2 with
  | false => rfl
  | true =>
    cases e2 : ltS a.2 b.2 with
    | false => rfl
    | true =>
      have := ltS_trans e e2
      rw [ltS_irr] at this
      cases this
theorem spots_zip {H : Hp} : ∀ {vs : List V} {zs : List Spot}, SpotsX H vs zs → ∀ p ∈ vs.zip zs, SpotX H p.1 p.2
  | [], _, _, p, h => by simp at h
  | _ :: _, [], h, _, _ => by cases h.len
  | v :: vs, z :: zs, h, p, hp => by
    rw [List.zip_cons_cons] at hp
    rcases List.mem_cons.mp hp with rfl | hp
    · exact h.at_ 0 v z rfl rfl
    · exact spots_zip ⟨by simpa using h.len, fun i v z a b => h.at_ (i + 1) v z a b⟩ p hp
/-- sorted, of a list of spots -/
theorem s_sortZ {K : PySem.W.Frag} {H : Hp} {Q : VK} {a : Addr} {us : List V} {zs : List Spot} (ha : SqL K H a us) (hx : SpotsX H us zs) (nd : zs.Nodup) (k : ∀ p vs ws H', H p = none → Ex H H' → H' p = some (.lst vs) → SpotsX H' vs ws → ws.Perm zs → ws.Pairwise (fun z w => ltS z w = true) → Q (.ref p) H') : rSortedD K [.ref a] H Q := by
  have ul := hx.len
  let f : V × Spot → V × PyData := fun p => (p.1, spotD p.2)
  have e1 : ((us.zip zs).map f).map Prod.fst = us := by
    rw [List.map_map]
    exact List.map_fst_zip (by omega)
  refine ⟨a, (us.zip zs).map f, rfl, by rw [e1]; exact ha, fun p hp => ?_, ?_, ?_, fun p hp => ?_, fun q nq => ?_⟩
  · obtain ⟨p0, h0, rfl⟩ := List.mem_map.mp hp
    exact spot_dp (spots_zip hx p0 h0)
  · intro d hd d' hd'
    rw [List.map_map] at hd hd'
    obtain ⟨p, _, rfl⟩ := List.mem_map.mp hd
    obtain ⟨p', _, rfl⟩ := List.mem_map.mp hd'
    show PySem.W.alike (spotD p.2) (spotD p'.2) = true
    simp [spotD, PySem.W.alike, PySem.W.alikeAll]
  · refine .inl fun d hd => ?_
    rw [List.map_map] at hd
    obtain ⟨p, _, rfl⟩ := List.mem_map.mp hd
    exact ⟨_, _, rfl⟩
  · obtain ⟨p0, h0, rfl⟩ := List.mem_map.mp hp
    show (spotD p0.2).depth ≤ 50
    simp [spotD, PyData.depth, PyData.depthAll]
  · have em : (((us.zip zs).map f).mergeSort (PySem.W.dataLe false Prod.snd)) = ((us.zip zs).mergeSort leP).map f := (List.map_mergeSort (r := leP) (s := PySem.W.dataLe false Prod.snd) (f := f) (fun a _ b _ => rfl)).symm
    rw [em]
    have ew : (((us.zip zs).mergeSort leP).map f).map Prod.fst = ((us.zip zs).mergeSort leP).map Prod.fst := by rw [List.map_map]; rfl
    rw [ew]
    have pm : ((us.zip zs).mergeSort leP).Perm (us.zip zs) := List.mergeSort_perm _ _
    have pz : (((us.zip zs).mergeSort leP).map Prod.snd).Perm zs := by
      have := pm.map Prod.snd
      rwa [List.map_snd_zip (by omega)] at this
    refine k q _ (((us.zip zs).mergeSort leP).map Prod.snd) _ nq (exN nq) upd_same ⟨by rw [List.length_map, List.length_map], fun i v z h1 h2 => ?_⟩ pz ?_
    · rw [List.getElem?_map] at h1 h2
      cases g : ((us.zip zs).mergeSort leP)[i]? with
      | none => rw [g] at h1; cases h1
      | some p =>
        rw [g] at h1 h2
        cases h1
        cases h2
        exact spot_im (spots_zip hx p (pm.mem_iff.mp (List.mem_of_getElem? g))) (exN nq).im
    · have so := List.pairwise_mergeSort leP_trans leP_total (us.zip zs)
      have nd2 := pz.nodup_iff.mpr nd
      rw [List.pairwise_map]
      rw [List.Nodup, List.pairwise_map] at nd2
      refine (so.and nd2).imp fun {p q} h => ?_
      cases e : ltS p.2 q.2 with
      | true => rfl
      | false =>
        have h1 : ltS q.2 p.2 = false := by
          have := h.1
          unfold leP at this
          simpa using this
        exact absurd (ltS_total e h1) h.2
theorem term_good {t : Term} (g : t.1 ≠ gr) (z : t.2 ≠ 0) : isTermD (termD t) = true := by
  show (isSpotD (spotD t.1) && !PyData.eqv (spotD t.1) (spotD gr) && (isRatD (ratD t.2) && !PyData.eqv (ratD t.2) (ratD 0))) = true
  rw [spot_eqv, rat_eqv, ratD_is, decide_eq_false g, decide_eq_false z]
  rfl
theorem ord_good : ∀ (ts : List Term) (b : Option Spot), (ts.map Prod.fst).Pairwise (fun z w => ltS z w = true) → (∀ x, b = some x → ∀ t ∈ ts, ltS x t.1 = true) → ordD (b.map spotD) (ts.map termD) = true
  | [], b, _, _ => by cases b <;> rfl
  | t :: ts, b, h, hb => by
    rw [List.map_cons, List.pairwise_cons] at h
    have ih := ord_good ts (some t.1) h.2 fun x e s hs => by
      cases e
      exact h.1 _ (List.mem_map_of_mem hs)
    cases b with
    | none => exact ih
    | some x =>
      show (PySem.W.dataLt (spotD x) (spotD t.1) && ordD (some (spotD t.1)) (ts.map termD)) = true
      rw [show PySem.W.dataLt (spotD x) (spotD t.1) = true from hb x rfl t List.mem_cons_self]
      exact ih
theorem form_good {f : Fm} (h : (f.ts.map Prod.fst).Pairwise (fun z w => ltS z w = true)) (g : ∀ t ∈ f.ts, t.1 ≠ gr ∧ t.2 ≠ 0) : isPlainD (formD f) = true := by
  show (isRatD (ratD f.r) && (((f.ts.map termD).all isTermD) && ordD none (f.ts.map termD))) = true
  rw [ratD_is, Bool.true_and, Bool.and_eq_true]
  refine ⟨List.all_eq_true.mpr fun d hd => ?_, ord_good f.ts none h fun x e => by cases e⟩
  obtain ⟨t, ht, rfl⟩ := List.mem_map.mp hd
  exact term_good (g t ht).1 (g t ht).2
/-! ### spoilt things -/
def LayN (n : Nat) (d : PyData) : Prop := d.canLay0 = true ∧ d.depth ≤ n
theorem lay_all : ∀ {n : Nat} {ds : List PyData}, (∀ d ∈ ds, LayN n d) → PyData.canLayAll0 ds = true ∧ PyData.depthAll ds ≤ n
  | _, [], _ => ⟨rfl, Nat.zero_le _⟩
  | n, d :: ds, h => by
    have a := h d List.mem_cons_self
    have b := lay_all (n := n) (ds := ds) fun x m => h x (List.mem_cons_of_mem _ m)
    rw [PyData.canLayAll0, PyData.depthAll, a.1, b.1]
    exact ⟨rfl, Nat.max_le.mpr ⟨a.2, b.2⟩⟩
theorem lay_tup {n : Nat} {ds : List PyData} (h : ∀ d ∈ ds, LayN n d) : LayN (n + 1) (.tuple ds) := by
  have a := lay_all h
  refine ⟨by rw [PyData.canLay0]; exact a.1, by rw [PyData.depth]; omega⟩
theorem lay_lst {n : Nat} {ds : List PyData} (h : ∀ d ∈ ds, LayN n d) : LayN (n + 1) (.list ds) := by
  have a := lay_all h
  refine ⟨by rw [PyData.canLay0]; exact a.1, by rw [PyData.depth]; omega⟩
theorem lay_mono {n m : Nat} {d : PyData} (h : LayN n d) (l : n ≤ m) : LayN m d := ⟨h.1, Nat.le_trans h.2 l⟩
theorem lay_int {n : Nat} (i : Int) : LayN n (.int i) := ⟨rfl, Nat.zero_le _⟩
theorem lay_rat (q : Rat) : LayN 1 (ratD q) := lay_tup (n := 0) fun d h => by
  rcases List.mem_cons.mp h with rfl | h
  · exact lay_int _
  · rw [List.mem_singleton.mp h]
    exact lay_int _
theorem lay_str {n : Nat} {s : Str} (h : PyData.strOk s = true) : LayN n (.str s) := ⟨by rw [PyData.canLay0]; exact h, Nat.zero_le _⟩
theorem lay_spot {z : Spot} (h : SpOk z) : LayN 1 (spotD z) := lay_tup (n := 0) fun d m => by
  simp only [List.mem_cons, List.not_mem_nil, or_false] at m
  rcases m with rfl | rfl | rfl
  · exact lay_str h
  · exact lay_int _
  · exact lay_int _
theorem lay2 {n : Nat} {a b : PyData} (h : LayN n a) (g : LayN n b) : LayN (n + 1) (.tuple [a, b]) := lay_tup fun d m => by
  simp only [List.mem_cons, List.not_mem_nil, or_false] at m
  rcases m with rfl | rfl
  · exact h
  · exact g
theorem lay3 {n : Nat} {a b c : PyData} (h : LayN n a) (g : LayN n b) (f : LayN n c) : LayN (n + 1) (.tuple [a, b, c]) := lay_tup fun d m => by
  simp only [List.mem_cons, List.not_mem_nil, or_false] at m
  rcases m with rfl | rfl | rfl
  · exact h
  · exact g
  · exact f
theorem lay_term {t : Term} (h : SpOk t.1) : LayN 2 (termD t) := lay2 (lay_spot h) (lay_rat _)
theorem lay_sh {n : Nat} {d : PyData} (h : LayN n d) (l : n ≤ 20) : SeqAt.shaped d = true := by
  rw [SeqAt.shaped, h.1, Bool.true_and, decide_eq_true_eq]
  exact Nat.le_trans h.2 (Nat.le_trans l (Nat.le_of_ble_eq_true rfl))
theorem sh_lay {n : Nat} {d : PyData} (h : SeqAt.shaped d = true) (l : d.depth ≤ n) : LayN n d := by
  rw [SeqAt.shaped, Bool.and_eq_true] at h
  exact ⟨h.1, l⟩
mutual
theorem dp_kx {K : PySem.W.Frag} {H H' : Hp} (m : Kx K H H') : ∀ (d : PyData) (v : V), Dp K H v d → Dp K H' v d
  | .none, _, h => by cases h; exact .non
  | .bool b, _, h => by cases h; exact .bl b
  | .int i, _, h => by cases h; exact .int i
  | .str x, _, h => by cases h; exact .str x
  | .list ds, _, h => by
    cases h with
    | lst a b => exact .lst ((m _ _).1 a) (dpa_kx m ds _ b)
  | .tuple ds, _, h => by
    cases h with
    | tup a b => exact .tup ((m _ _).2 a) (dpa_kx m ds _ b)
  | .dict _, _, h => by cases h
theorem dpa_kx {K : PySem.W.Frag} {H H' : Hp} (m : Kx K H H') : ∀ (ds : List PyData) (vs : List V), DpAll K H vs ds → DpAll K H' vs ds
  | [], _, h => by cases h; exact .nil
  | d :: ds, _, h => by
    cases h with
    | cons a b => exact .cons (dp_kx m d _ a) (dpa_kx m ds _ b)
end
/-! ### sums of rows: what is merged -/
def tot (z : Spot) : List Term → Rat
  | [] => 0
  | t :: r => (if t.1 = z then t.2 else 0) + tot z r
theorem tot_app (z : Spot) : ∀ as bs : List Term, tot z (as ++ bs) = tot z as + tot z bs
  | [], bs => by
    show tot z bs = 0 + tot z bs
    rw [Rat.zero_add]
  | a :: as, bs => by
    show (if a.1 = z then a.2 else 0) + tot z (as ++ bs) = (if a.1 = z then a.2 else 0) + tot z as + tot z bs
    rw [tot_app z as bs, Rat.add_assoc]
theorem tot_one (z : Spot) (t : Term) : tot z [t] = if t.1 = z then t.2 else 0 := Rat.add_zero _
theorem tot_no {z : Spot} : ∀ {ts : List Term}, (∀ t ∈ ts, t.1 ≠ z) → tot z ts = 0
  | [], _ => rfl
  | t :: r, h => by
    show (if t.1 = z then t.2 else 0) + tot z r = 0
    rw [if_neg (h t List.mem_cons_self), tot_no fun u m => h u (List.mem_cons_of_mem _ m), Rat.zero_add]
theorem tot_perm {z : Spot} {as bs : List Term} (h : as.Perm bs) : tot z as = tot z bs := by
  induction h with
  | nil => rfl
  | cons x _ ih => show _ + tot z _ = _ + tot z _; rw [ih]
  | swap x y l =>
    show (if y.1 = z then y.2 else 0) + ((if x.1 = z then x.2 else 0) + tot z l) = (if x.1 = z then x.2 else 0) + ((if y.1 = z then y.2 else 0) + tot z l)
    rw [← Rat.add_assoc, ← Rat.add_assoc, Rat.add_comm (if y.1 = z then y.2 else 0)]
  | trans _ _ a b => exact a.trans b
theorem tot_mul (z : Spot) (q : Rat) : ∀ ts : List Term, tot z (ts.map fun t => (t.1, t.2 * q)) = tot z ts * q
  | [] => (Rat.zero_mul q).symm
  | t :: r => by
    show (if t.1 = z then t.2 * q else 0) + tot z (r.map fun t => (t.1, t.2 * q)) = ((if t.1 = z then t.2 else 0) + tot z r) * q
    rw [tot_mul z q r, Rat.add_mul]
    by_cases c : t.1 = z
    · rw [if_pos c, if_pos c]
    · rw [if_neg c, if_neg c, Rat.zero_mul]
/-- ms is the plain form of the row ts -/
structure Mrg (ts ms : List Term) : Prop where
  srt : (ms.map Prod.fst).Pairwise (fun z w => ltS z w = true)
  each : ∀ t ∈ ms, t.1 ≠ gr ∧ t.2 = tot t.1 ts ∧ t.2 ≠ 0
  all : ∀ z, z ≠ gr → tot z ts ≠ 0 → z ∈ ms.map Prod.fst
theorem srt_uniq : ∀ {as bs : List Spot}, as.Pairwise (fun z w => ltS z w = true) → bs.Pairwise (fun z w => ltS z w = true) → (∀ z, z ∈ as ↔ z ∈ bs) → as = bs
  | [], [], _, _, _ => rfl
  | [], b :: bs, _, _, h => by have := (h b).mpr List.mem_cons_self; cases this
  | a :: as, [], _, _, h => by have := (h a).mp List.mem_cons_self; cases this
  | a :: as, b :: bs, ha, hb, h => by
    have pa := List.pairwise_cons.mp ha
    have pb := List.pairwise_cons.mp hb
    have e : a = b := by
      rcases List.mem_cons.mp ((h a).mp List.mem_cons_self) with e | m
      · exact e
      · rcases List.mem_cons.mp ((h b).mpr List.mem_cons_self) with e | m2
        · exact e.symm
        · have x := ltS_trans (pb.1 a m) (pa.1 b m2)
          rw [ltS_irr] at x
          cases x
    subst e
    have na : ∀ {l : List Spot}, (∀ y ∈ l, ltS a y = true) → a ∉ l := fun h m => by
      have x := h a m
      rw [ltS_irr] at x
      cases x
    congr 1
    refine srt_uniq pa.2 pb.2 fun z => ⟨fun m => ?_, fun m => ?_⟩
    · rcases List.mem_cons.mp ((h z).mp (List.mem_cons_of_mem _ m)) with e | m2
      · exact absurd (e ▸ m) (na pa.1)
      · exact m2
    · rcases List.mem_cons.mp ((h z).mpr (List.mem_cons_of_mem _ m)) with e | m2
      · exact absurd (e ▸ m) (na pb.1)
      · exact m2
theorem Mrg.mem {ts ms : List Term} (h : Mrg ts ms) (z : Spot) : z ∈ ms.map Prod.fst ↔ z ≠ gr ∧ tot z ts ≠ 0 := by
  refine ⟨fun m => ?_, fun ⟨a, b⟩ => h.all z a b⟩
  obtain ⟨t, tm, rfl⟩ := List.mem_map.mp m
  obtain ⟨a, b, c⟩ := h.each t tm
  exact ⟨a, b ▸ c⟩
theorem mrg_same {ts ts' ms ms' : List Term} (h : Mrg ts ms) (h' : Mrg ts' ms') (e : ∀ z, z ≠ gr → tot z ts = tot z ts') : ms = ms' := by
  have ek : ms.map Prod.fst = ms'.map Prod.fst := srt_uniq h.srt h'.srt fun z => by
    rw [h.mem, h'.mem]
    refine ⟨fun ⟨a, b⟩ => ⟨a, by rw [← e z a]; exact b⟩, fun ⟨a, b⟩ => ⟨a, by rw [e z a]; exact b⟩⟩
  have l : ms.length = ms'.length := by
    have := congrArg List.length ek
    rwa [List.length_map, List.length_map] at this
  refine List.ext_getElem l fun i h1 h2 => ?_
  have f : (ms[i]).1 = (ms'[i]).1 := by
    have := congrArg (fun l => l[i]?) ek
    simp only [List.getElem?_map] at this
    rw [List.getElem?_eq_getElem h1, List.getElem?_eq_getElem h2] at this
    exact Option.some.inj this
  obtain ⟨g1, v1, _⟩ := h.each _ (List.getElem_mem h1)
  obtain ⟨_, v2, _⟩ := h'.each _ (List.getElem_mem h2)
  refine Prod.ext f ?_
  rw [v1, v2, f, e _ (f ▸ g1)]
theorem mrg_uniq {ts ms ms' : List Term} (h : Mrg ts ms) (h' : Mrg ts ms') : ms = ms' := mrg_same h h' fun _ _ => rfl
theorem srt_nd {ms : List Term} (h : (ms.map Prod.fst).Pairwise (fun z w => ltS z w = true)) : (ms.map Prod.fst).Nodup := h.imp fun {a b} l e => by
  subst e
  rw [ltS_irr] at l
  cases l
theorem tot_at {z : Spot} {q : Rat} : ∀ {ms : List Term}, (ms.map Prod.fst).Nodup → (z, q) ∈ ms → tot z ms = q
  | [], _, m => by cases m
  | t :: r, nd, m => by
    rw [List.map_cons, List.nodup_cons] at nd
    show (if t.1 = z then t.2 else 0) + tot z r = q
    rcases List.mem_cons.mp m with rfl | m
    · rw [if_pos rfl, tot_no fun u hu e => nd.1 (by have := List.mem_map_of_mem (f := Prod.fst) hu; rw [e] at this; exact this), Rat.add_zero]
    · have : t.1 ≠ z := fun e => nd.1 (by rw [e]; exact List.mem_map_of_mem (f := Prod.fst) m)
      rw [if_neg this, Rat.zero_add]
      exact tot_at nd.2 m
/-- the sums of a merged row are those of the row -/
theorem Mrg.sums {ts ms : List Term} (h : Mrg ts ms) (z : Spot) (zg : z ≠ gr) : tot z ms = tot z ts := by
  by_cases c : tot z ts = 0
  · rw [c]
    refine tot_no fun t m e => ?_
    obtain ⟨_, b, n⟩ := h.each t m
    rw [e] at b
    exact n (b.trans c)
  · obtain ⟨t, m, e⟩ := List.mem_map.mp (h.all z zg c)
    subst e
    rw [tot_at (q := t.2) (srt_nd h.srt) m, (h.each t m).2.1]
theorem Mrg.nil {ts : List Term} (h : ∀ z, z ≠ gr → tot z ts = 0) : Mrg ts [] := ⟨.nil, (fun t m => by cases m), fun z a b => absurd (h z a) b⟩
theorem mrg_nil {ts ms : List Term} (h : Mrg ts ms) (e : ∀ z, z ≠ gr → tot z ts = 0) : ms = [] := mrg_same h (Mrg.nil e) fun _ _ => rfl
/-- out of a sorted row of spots and its sums -/
theorem mrg_of {ts : List Term} {zs ws : List Spot} (hz : ∀ z, z ∈ zs ↔ z ≠ gr ∧ ∃ t ∈ ts, t.1 = z) (pm : ws.Perm zs) (pw : ws.Pairwise (fun z w => ltS z w = true)) : Mrg ts ((ws.filter fun z => decide (tot z ts ≠ 0)).map fun z => (z, tot z ts)) := by
  have ek : ((ws.filter fun z => decide (tot z ts ≠ 0)).map fun z => ((z, tot z ts) : Term)).map Prod.fst = ws.filter fun z => decide (tot z ts ≠ 0) := by
    rw [List.map_map]
    exact List.map_id _
  refine ⟨by rw [ek]; exact pw.filter _, fun t m => ?_, fun z a b => ?_⟩
  · obtain ⟨z, hm, rfl⟩ := List.mem_map.mp m
    obtain ⟨h1, h2⟩ := List.mem_filter.mp hm
    exact ⟨((hz z).mp (pm.mem_iff.mp h1)).1, rfl, of_decide_eq_true h2⟩
  · rw [ek]
    refine List.mem_filter.mpr ⟨pm.mem_iff.mpr ((hz z).mpr ⟨a, ?_⟩), decide_eq_true b⟩
    rcases Classical.em (∃ t ∈ ts, t.1 = z) with h | h
    · exact h
    · exact absurd (tot_no fun t m e => h ⟨t, m, e⟩) b
/-- sizes of sums -/
theorem tot_sz {z : Spot} {B : Nat} (hB : 1 ≤ B) : ∀ {ts : List Term}, (∀ t ∈ ts, Sz B t.2) → Sz ((2 * B) ^ ts.length) (tot z ts)
  | [], _ => (⟨by decide, by decide⟩ : Sz 1 (0 : Rat))
  | t :: r, h => by
    have ih := tot_sz (z := z) hB (ts := r) fun u m => h u (List.mem_cons_of_mem _ m)
    have one : Sz B (if t.1 = z then t.2 else 0) := by
      by_cases c : t.1 = z
      · rw [if_pos c]; exact h t List.mem_cons_self
      · rw [if_neg c]; exact ⟨by show (0 : Int).natAbs ≤ B; omega, by show 1 ≤ B; exact hB⟩
    refine (one.add ih).mono ?_
    rw [List.length_cons, Nat.pow_succ]
    have : 2 * (B * (2 * B) ^ r.length) = (2 * B) ^ r.length * (2 * B) := by
      rw [← Nat.mul_assoc, Nat.mul_comm]
    omega
/-! ### forms -/
section
variable (K : PySem.W.Frag) (C : Addr)
/-- a Form with these terms and this rest -/
def FrmAt (H : Hp) (v : V) (f : Fm) : Prop := ∃ a dx t us r, v = .ref a ∧ H a = some (.ins C dx [("terms", .ref t), ("rest", r)]) ∧ SqT K H t us ∧ TermsAt K H us f.ts ∧ RQ K H r f.r
theorem frm_im {K : PySem.W.Frag} {C : Addr} {H H' : Hp} {v : V} {f : Fm} (h : FrmAt K C H v f) (m : Im H H') : FrmAt K C H' v f := let ⟨a, dx, t, us, r, h1, h2, h3, h4, h5⟩ := h; ⟨a, dx, t, us, r, h1, m _ _ trivial h2, sqt_im h3 m, terms_im h4 m, rq_im h5 m⟩
/-- a row of few terms of moderate size: any sum of them is moderate -/
structure RowB (k : Nat) (ts : List Term) : Prop where
  sz : ∀ t ∈ ts, Sz (10 ^ k) t.2
  len : (k + 1) * ts.length ≤ 1280
  n : ts.length ≤ 40
  ok : ∀ t ∈ ts, SpOk t.1
def isPairD : PyData → Bool
  | .tuple [s, r] => isSpotD s && isRatD r
  | _ => false
/-- a row: the terms ts, then either no more or a thing that is no pair -/
def RowAt (H : Hp) (us : List V) (ts : List Term) : Prop := us.length = ts.length ∧ TermsAt K H us ts
def BadAt (H : Hp) (us : List V) (ts : List Term) : Prop := ts.length < us.length ∧ us.length ≤ 100 ∧ TermsAt K H (us.take ts.length) ts ∧ ∃ x d, us[ts.length]? = some x ∧ Dp K H x d ∧ SeqAt.shaped d = true ∧ isPairD d = false
/-- BadForm with this place -/
def BadE (cB : Addr) (H : Hp) (E : XK) (i : Int) : Prop := ∀ e H', Ex H H' → H' e = some (.xd [("place", .int i)]) → E (.ref cB) (some e) H'
def spMerged (cB : Addr) : Sp := fun vs H Q E => ∃ p us ts k, vs = [.ref p] ∧ SqA K H p us ∧ RowB k ts ∧
  ((RowAt K H us ts ∧ ∀ q ws ms H', Ex H H' → SqT K H' q ws → TermsAt K H' ws ms → Mrg ts ms → Q (.ref q) H') ∨ (BadAt K H us ts ∧ BadE cB H E (ts.length : Nat)))
/-- a new Form of a row: the row, the rest -/
def spInitF (cB : Addr) : Sp := fun vs H Q E => ∃ x dx p w us ts k, vs = [.ref x, .ref p, w] ∧ H x = some (.ins C dx []) ∧ SqA K H p us ∧ RowB k ts ∧
  ((RowAt K H us ts ∧ ((∃ q, RQ K H w q ∧ ∀ ms H', (∀ a o, a ≠ x → H a = some o → H' a = some o) → FrmAt K C H' (.ref x) ⟨ms, q⟩ → Mrg ts ms → Q .non H') ∨
    ∃ d, Dp K H w d ∧ SeqAt.shaped d = true ∧ isRatD d = false ∧ ∀ e H', (∀ a o, a ≠ x → H a = some o → H' a = some o) → H' e = some (.xd [("place", .int (-1))]) → E (.ref cB) (some e) H')) ∨
   (BadAt K H us ts ∧ BadE cB H E (ts.length : Nat)))
def spFormOf : Sp := fun vs H Q E => ∃ v z, vs = [v] ∧ SpotX H v z ∧ SpOk z ∧ ∀ u ms H', Ex H H' → FrmAt K C H' u ⟨ms, 0⟩ → Mrg [(z, 1)] ms → Q u H'
def spPlainF : Sp := fun vs H Q E => ∃ v f, vs = [v] ∧ FrmAt K C H v f ∧ ∀ u H', Ex H H' → FormAt K H' u f → Q u H'
def negT (t : Term) : Term := (t.1, -t.2)
def mulT (q : Rat) (t : Term) : Term := (t.1, t.2 * q)
def spAddF : Sp := fun vs H Q E => ∃ v w f g k, vs = [v, w] ∧ FrmAt K C H v f ∧ FrmAt K C H w g ∧ RowB k (f.ts ++ g.ts) ∧ Sz (10 ^ 600) f.r ∧ Sz (10 ^ 600) g.r ∧ ∀ u ms H', Ex H H' → FrmAt K C H' u ⟨ms, f.r + g.r⟩ → Mrg (f.ts ++ g.ts) ms → Q u H'
def spSubF : Sp := fun vs H Q E => ∃ v w f g k, vs = [v, w] ∧ FrmAt K C H v f ∧ FrmAt K C H w g ∧ RowB k (f.ts ++ g.ts) ∧ Sz (10 ^ 600) f.r ∧ Sz (10 ^ 600) g.r ∧ ∀ u ms H', Ex H H' → FrmAt K C H' u ⟨ms, f.r - g.r⟩ → Mrg (f.ts ++ g.ts.map negT) ms → Q u H'
def spNegF : Sp := fun vs H Q E => ∃ v f k, vs = [v] ∧ FrmAt K C H v f ∧ RowB k f.ts ∧ Sz (10 ^ 600) f.r ∧ ∀ u ms H', Ex H H' → FrmAt K C H' u ⟨ms, -f.r⟩ → Mrg (f.ts.map negT) ms → Q u H'
def spMulF : Sp := fun vs H Q E => ∃ v w f q k j, vs = [v, w] ∧ FrmAt K C H v f ∧ RQ K H w q ∧ Sz (10 ^ j) q ∧ RowB (k + j) f.ts ∧ (∀ t ∈ f.ts, Sz (10 ^ k) t.2) ∧ Sz (10 ^ 600) f.r ∧ j ≤ 600 ∧ ∀ u ms H', Ex H H' → FrmAt K C H' u ⟨ms, f.r * q⟩ → Mrg (f.ts.map (mulT q)) ms → Q u H'
/-- a Form's own ==: with another Form, with a tuple -/
def spEqF : Sp := fun vs H Q E => ∃ v w f, vs = [v, w] ∧ FrmAt K C H v f ∧ (∀ t ∈ f.ts, SpOk t.1) ∧ f.ts.length ≤ 40 ∧
  ((∃ g, FrmAt K C H w g ∧ (∀ t ∈ g.ts, SpOk t.1) ∧ g.ts.length ≤ 40 ∧ ∀ H', Ex H H' → Q (.bl (decide (f.ts = g.ts ∧ f.r = g.r))) H') ∨ (∃ q us, w = .ref q ∧ SqT K H q us ∧ ∀ H', Ex H H' → Q (.bl false) H'))
/-- the value in a world -/
def spCallF (cW cS : Addr) : Sp := fun vs H Q E => ∃ v w zs vals f, vs = [v, w] ∧ FrmAt K C H v f ∧ WorldV K H cW w zs vals ∧ zs.Nodup ∧ ValB zs vals ∧ f.ts.length ≤ 6 ∧ (∀ t ∈ f.ts, Sz (10 ^ 150) t.2) ∧ Sz (10 ^ 30) f.r ∧ ((∀ t ∈ f.ts, t.1 ∈ zs) → ∀ u H', Ex H H' → RQ K H' u (valF vals f) → Q u H') ∧ LackE cS H E zs f.ts
end
theorem lacks_uniq {zs : List Spot} {ts : List Term} {y z : Spot} (h : Lacks zs ts y) (g : Lacks zs ts z) : y = z := by
  obtain ⟨i, t, hi, rfl, ni, bi⟩ := h
  obtain ⟨j, u, hj, rfl, nj, bj⟩ := g
  have before : ∀ {i j : Nat} {t u : Term}, ts[i]? = some t → t.1 ∉ zs → (∀ s ∈ ts.take j, s.1 ∈ zs) → ¬ i < j := fun {i j t u} hi n b l => n (b t (List.mem_of_getElem? (i := i) (by rw [List.getElem?_take, if_pos l]; exact hi)))
  have a := before (u := u) hi ni bj
  have b := before (u := t) hj nj bi
  have e : i = j := by omega
  subst e
  rw [hi] at hj
  cases hj
  rfl
theorem lacks_no {zs : List Spot} {ts : List Term} {y : Spot} (h : Lacks zs ts y) (g : ∀ t ∈ ts, t.1 ∈ zs) : False := by
  obtain ⟨i, t, hi, rfl, ni, _⟩ := h
  exact ni (g t (List.mem_of_getElem? hi))
theorem lacks_ex {zs : List Spot} : ∀ {ts : List Term}, (∃ t ∈ ts, t.1 ∉ zs) → ∃ y, Lacks zs ts y
  | [], ⟨_, m, _⟩ => by cases m
  | u :: us, ⟨t, m, n⟩ => by
    by_cases c : u.1 ∈ zs
    · have m2 : t ∈ us := by
        rcases List.mem_cons.mp m with e | m
        · rw [e] at n; exact absurd c n
        · exact m
      obtain ⟨y, i, v, hi, e, ny, b⟩ := lacks_ex ⟨t, m2, n⟩
      refine ⟨y, i + 1, v, by simpa using hi, e, ny, fun s hs => ?_⟩
      rw [List.take_succ_cons] at hs
      rcases List.mem_cons.mp hs with rfl | hs
      · exact c
      · exact b s hs
    · exact ⟨u.1, 0, u, rfl, rfl, c, fun s hs => by cases hs⟩
theorem lacks_mem {zs : List Spot} {ts : List Term} {y : Spot} (h : Lacks zs ts y) : ∃ t ∈ ts, t.1 = y := by
  obtain ⟨i, t, hi, e, _⟩ := h
  exact ⟨t, List.mem_of_getElem? hi, e⟩
/-- ground stands in no term -/
theorem lacks_gr {zs : List Spot} {ts : List Term} {y : Spot} (g : ∀ t ∈ ts, t.1 ≠ gr) (h : Lacks zs ts y) : Lacks (gr :: zs) ts y := by
  obtain ⟨i, t, hi, e, n, b⟩ := h
  refine ⟨i, t, hi, e, fun m => ?_, fun s hs => List.mem_cons_of_mem _ (b s hs)⟩
  rcases List.mem_cons.mp m with q | m
  · exact g t (List.mem_of_getElem? hi) (e.trans q)
  · exact n m
/-! ### the law's own -/
/-- data of whole numbers, texts and tuples, to a depth -/
def exD : Nat → PyData → Prop
  | 0, _ => False
  | n + 1, .tuple ds => ds.length ≤ 1000 ∧ ∀ d ∈ ds, exD n d
  | _ + 1, .int _ => True
  | _ + 1, .str _ => True
  | _ + 1, _ => False
theorem exD_mono : ∀ {n m : Nat} {d : PyData}, exD n d → n ≤ m → exD m d
  | 0, _, _, h, _ => h.elim
  | n + 1, 0, _, _, l => by omega
  | n + 1, m + 1, .tuple ds, h, l => ⟨h.1, fun d hd => exD_mono (h.2 d hd) (by omega)⟩
  | n + 1, m + 1, .int _, _, _ => trivial
  | n + 1, m + 1, .str _, _, _ => trivial
  | n + 1, m + 1, .none, h, _ => h.elim
  | n + 1, m + 1, .bool _, h, _ => h.elim
  | n + 1, m + 1, .list _, h, _ => h.elim
  | n + 1, m + 1, .dict _, h, _ => h.elim
theorem ex_rat (q : Rat) : exD 2 (ratD q) := ⟨by show 2 ≤ 1000; decide, fun d m => by
  simp only [List.mem_cons, List.not_mem_nil, or_false] at m
  rcases m with rfl | rfl <;> trivial⟩
theorem ex_spot (z : Spot) : exD 2 (spotD z) := ⟨by show 3 ≤ 1000; decide, fun d m => by
  simp only [List.mem_cons, List.not_mem_nil, or_false] at m
  rcases m with rfl | rfl | rfl <;> trivial⟩
theorem ex_term (t : Term) : exD 3 (termD t) := ⟨by show 2 ≤ 1000; decide, fun d m => by
  simp only [List.mem_cons, List.not_mem_nil, or_false] at m
  rcases m with rfl | rfl
  · exact ex_spot _
  · exact ex_rat _⟩
theorem ex_terms {ts : List Term} (l : ts.length ≤ 1000) : exD 4 (.tuple (ts.map termD)) := ⟨by rw [List.length_map]; exact l, fun d m => by
  obtain ⟨t, _, rfl⟩ := List.mem_map.mp m
  exact ex_term t⟩
theorem ex_form {f : Fm} (l : f.ts.length ≤ 1000) : exD 5 (formD f) := ⟨by show 2 ≤ 1000; decide, fun d m => by
  simp only [List.mem_cons, List.not_mem_nil, or_false] at m
  rcases m with rfl | rfl
  · exact ex_terms l
  · exact exD_mono (ex_rat _) (by decide)⟩
/-- the plain form of a drawn row -/
structure FmK (ps : List Spot) (f : Fm) : Prop where
  len : f.ts.length ≤ 5
  sz : ∀ t ∈ f.ts, Sz (10 ^ 117) t.2
  r : Sz (10 ^ 12) f.r
  at_ : ∀ t ∈ f.ts, t.1 ∈ ps
  ok : ∀ t ∈ f.ts, SpOk t.1
  gr : ∀ t ∈ f.ts, t.1 ≠ gr
  srt : (f.ts.map Prod.fst).Pairwise (fun z w => ltS z w = true)
  nz : ∀ t ∈ f.ts, t.2 ≠ 0
/-- the pool of spots -/
structure Pool (ps : List Spot) : Prop where
  nd : ps.Nodup
  g : gr ∉ ps
  ok : ∀ z ∈ ps, SpOk z
  l1 : 1 ≤ ps.length
  l5 : ps.length ≤ 5
/-- a drawn row -/
structure RowK (ps : List Spot) (ts : List Term) : Prop where
  len : ts.length ≤ 9
  sz : ∀ t ∈ ts, Sz (10 ^ 12) t.2
  at_ : ∀ t ∈ ts, t.1 ∈ ps ∨ t.1 = gr
  ok : ∀ t ∈ ts, SpOk t.1
/-- the table of sums so far -/
structure SumsAt (K : PySem.W.Frag) (H : Hp) (d : Addr) (ts : List Term) (zs : List Spot) (vs : List V) : Prop where
  d : H d = some (.dT (tabW zs vs))
  len : vs.length = zs.length
  nd : zs.Nodup
  mem : ∀ z, z ∈ zs ↔ z ≠ gr ∧ ∃ t ∈ ts, t.1 = z
  r : RatsX K H vs (zs.map fun z => ratP (tot z ts))
/-- objects that are no tuples -/
def OffT (H : Hp) (S : List Addr) : Prop := ∀ a ∈ S, ∃ o, H a = some o ∧ ∀ xs, o ≠ .tup xs
section
variable (K : PySem.W.Frag) (C cW cS cB : Addr)
def spShuffledN : Sp := fun vs H Q E => ∃ b p us, vs = [.ref b, .ref p] ∧ BagAt H b ∧ SqL K H p us ∧ us.length ≤ 1000 ∧ ∀ q ws H', Kb b H H' → ws.Perm us → H' q = some (.lst ws) → H q = none → Q (.ref q) H'
def spChoiceLT : Sp := fun vs H Q E => ∃ b, BagAt H b ∧ ((∃ p xs, vs = [.ref b, .ref p] ∧ SqL K H p xs ∧ 0 < xs.length ∧ xs.length ≤ 1000 ∧ ∀ v H', v ∈ xs → Kb b H H' → Q v H') ∨
  ∃ p xs, vs = [.ref b, .ref p] ∧ SqT K H p xs ∧ 0 < xs.length ∧ xs.length ≤ 1000 ∧ ∀ v H', v ∈ xs → Kb b H H' → Q v H')
def spAdded : Sp := fun vs H Q E => ∃ d w v z q ts zs us, vs = [.ref d, w, v] ∧ SumsAt K H d ts zs us ∧ SpotX H w z ∧ SpOk z ∧ RQ K H v q ∧ Sz (10 ^ 1280) (tot z ts) ∧ Sz (10 ^ 1280) q ∧ zs.length ≤ 1000 ∧ ∀ H' zs' us', Kx K H H' → (∀ a o, a ≠ d → H a = some o → H' a = some o) → SumsAt K H' d (ts ++ [(z, q)]) zs' us' → zs'.length ≤ zs.length + 1 → Q (.ref d) H'
def spExact (n : Nat) : Sp := fun vs H Q E => ∃ v w d, vs = [v, w] ∧ Dp K H v d ∧ Dp K H w d ∧ exD n d ∧ ∀ H', Ex H H' → Q (.bl true) H'
theorem exact_none {K : PySem.W.Frag} (vs : List V) (H : Hp) (Q : VK) (E : XK) : ¬ spExact K 0 vs H Q E := fun ⟨_, _, _, _, _, _, h, _⟩ => h
def spPlainK : Sp := fun vs H Q E => ∃ v w zs vals f, vs = [v, w] ∧ ValsAt K H v zs vals ∧ zs.Nodup ∧ ValB zs vals ∧ FormAt K H w f ∧ f.ts.length ≤ 6 ∧ (∀ t ∈ f.ts, Sz (10 ^ 150) t.2) ∧ Sz (10 ^ 30) f.r ∧ (∀ t ∈ f.ts, t.1 ∈ zs) ∧ ∀ u H', Ex H H' → RQ K H' u (valF vals f) → Q u H'
def spPool : Sp := fun vs H Q E => ∃ b, vs = [.ref b] ∧ BagAt H b ∧ ∀ p us ps H', Kb b H H' → H' p = some (.lst us) → SpotsX H' us ps → Pool ps → Q (.ref p) H'
def spNumR : Sp := fun vs H Q E => ∃ b, vs = [.ref b] ∧ BagAt H b ∧ ∀ v q H', Kb b H H' → RQ K H' v q → Sz (10 ^ 12) q → Q v H'
def spRowOf : Sp := fun vs H Q E => ∃ b p us ps, vs = [.ref b, .ref p] ∧ BagAt H b ∧ H p = some (.lst us) ∧ SpotsX H us ps ∧ Pool ps ∧ ∀ r ws ts H', Kb b H H' → H' r = some (.lst ws) → TermsAt K H' ws ts → RowK ps ts → Q (.ref r) H'
def spPlainOf : Sp := fun vs H Q E => ∃ p w us ts k q, vs = [.ref p, w] ∧ H p = some (.lst us) ∧ TermsAt K H us ts ∧ RowB k ts ∧ RQ K H w q ∧ ∀ u ms H', Ex H H' → FormAt K H' u ⟨ms, q⟩ → Mrg ts ms → Q u H'
def spSummed : Sp := fun vs H Q E => ∃ v w f g k, ∃ s : Int, vs = [v, w, .int s] ∧ FormAt K H v f ∧ FormAt K H w g ∧ RowB k (f.ts ++ g.ts) ∧ (s = 1 ∨ s = -1) ∧ Sz (10 ^ 600) f.r ∧ Sz (10 ^ 600) g.r ∧ ∀ u ms H', Ex H H' → FormAt K H' u ⟨ms, f.r + g.r * s⟩ → Mrg (f.ts ++ g.ts.map (mulT s)) ms → Q u H'
def spMulL : Sp := fun vs H Q E => ∃ v w f q k j, vs = [v, w] ∧ FormAt K H v f ∧ RQ K H w q ∧ Sz (10 ^ j) q ∧ RowB (k + j) f.ts ∧ (∀ t ∈ f.ts, Sz (10 ^ k) t.2) ∧ Sz (10 ^ 600) f.r ∧ j ≤ 600 ∧ ∀ u ms H', Ex H H' → FormAt K H' u ⟨ms, f.r * q⟩ → Mrg (f.ts.map (mulT q)) ms → Q u H'
def spIsF : Sp := fun vs H Q E => ∃ v w f, vs = [v, w] ∧ FrmAt K C H v f ∧ FormAt K H w f ∧ f.ts.length ≤ 1000 ∧ ∀ H', Ex H H' → Q (.bl true) H'
def spAlike : Sp := fun vs H Q E => ∃ v w f g b, vs = [v, w, .bl b] ∧ FrmAt K C H v f ∧ FrmAt K C H w g ∧ (∀ t ∈ f.ts, SpOk t.1) ∧ f.ts.length ≤ 40 ∧ (∀ t ∈ g.ts, SpOk t.1) ∧ g.ts.length ≤ 40 ∧ b = decide (f.ts = g.ts ∧ f.r = g.r) ∧ ∀ H', Ex H H' → Q (.bl true) H'
def spOpers : Sp := fun vs H Q E => ∃ v w p d1 d2 n f g q ps, vs = [v, w, .ref p, n] ∧ FrmAt K C H v f ∧ FrmAt K C H w g ∧ H p = some (.lst [d1, d2]) ∧ FormAt K H d1 f ∧ FormAt K H d2 g ∧ FmK ps f ∧ FmK ps g ∧ RQ K H n q ∧ Sz (10 ^ 12) q ∧ ∀ H', Ex H H' → Q (.bl true) H'
def spEqualOnes : Sp := fun vs H Q E => ∃ b v w p d1 d2 pl n f g q us ps, vs = [.ref b, v, w, .ref p, .ref pl, n] ∧ BagAt H b ∧ FrmAt K C H v f ∧ FrmAt K C H w g ∧ H p = some (.lst [d1, d2]) ∧ FormAt K H d1 f ∧ FormAt K H d2 g ∧ FmK ps f ∧ FmK ps g ∧ H pl = some (.lst us) ∧ SpotsX H us ps ∧ Pool ps ∧ RQ K H n q ∧ Sz (10 ^ 12) q ∧ ∀ H', Kb b H H' → Q (.bl true) H'
def spLacking : Sp := fun vs H Q E => ∃ v w zs vals f y, vs = [v, w] ∧ FrmAt K C H v f ∧ WorldV K H cW w zs vals ∧ zs.Nodup ∧ ValB zs vals ∧ f.ts.length ≤ 6 ∧ (∀ t ∈ f.ts, Sz (10 ^ 150) t.2) ∧ Sz (10 ^ 30) f.r ∧ Lacks zs f.ts y ∧ ∀ u H', Ex H H' → SpotX H' u y → Q u H'
def spCalled : Sp := fun vs H Q E => ∃ b v d pl f us ps, vs = [.ref b, v, d, .ref pl] ∧ BagAt H b ∧ FrmAt K C H v f ∧ FormAt K H d f ∧ FmK ps f ∧ H pl = some (.lst us) ∧ SpotsX H us ps ∧ Pool ps ∧ ∀ H', Kb b H H' → Q (.bl true) H'
def spRefused : Sp := fun vs H Q E => ∃ p w us ts k, vs = [.ref p, w] ∧ SqA K H p us ∧ RowB k ts ∧
  ((RowAt K H us ts ∧ ((∃ q, RQ K H w q ∧ ∀ H', Ex H H' → Q (.str "none") H') ∨ ∃ d, Dp K H w d ∧ SeqAt.shaped d = true ∧ isRatD d = false ∧ ∀ H', Ex H H' → Q (.int (-1)) H')) ∨ (BadAt K H us ts ∧ ∀ H', Ex H H' → Q (.int (ts.length : Nat)) H'))
def spBadPair : Sp := fun vs H Q E => ∃ b w z, vs = [.ref b, w] ∧ BagAt H b ∧ SpotX H w z ∧ SpOk z ∧ ∀ v d H', Kb b H H' → (∀ S, OffT H S → b ∈ S → RDp S K H' v d) → isPairD d = false → SeqAt.shaped d = true → Q v H'
def spBadRest : Sp := fun vs H Q E => ∃ b, vs = [.ref b] ∧ BagAt H b ∧ ∀ v d H', Kb b H H' → Dp K H' v d → isRatD d = false → SeqAt.shaped d = true → Q v H'
def spRefusals : Sp := fun vs H Q E => ∃ b p pl us ws ts ps, vs = [.ref b, .ref p, .ref pl] ∧ BagAt H b ∧ H p = some (.lst ws) ∧ TermsAt K H ws ts ∧ RowK ps ts ∧ H pl = some (.lst us) ∧ SpotsX H us ps ∧ Pool ps ∧ ∀ H', Kb b H H' → Q (.bl true) H'
end

/-! ### worlds of pairs (spot, ratio) -/
/-- plain data whose repr is short -/
structure Shw (d : PyData) : Prop where
  s : d.showable = true
  n : d.hasDict = false
  p : d.depth ≤ 60
  l : d.shown.length ≤ sizeLine
structure SpB (z : Spot) : Prop where
  ok : SpOk z
  len : z.1.length ≤ 10
  i1 : z.2.1.natAbs ≤ 10 ^ 20
  i2 : z.2.2.natAbs ≤ 10 ^ 20
/-- what stands for a spot -/
def lookT (ts : List Term) (z : Spot) : Option Rat := (ts.find? fun t => decide (t.1 = z)).map fun t => t.2
theorem lookT_none {ts : List Term} {z : Spot} (h : z ∉ ts.map fun t => t.1) : lookT ts z = none := by
  unfold lookT
  rw [List.find?_eq_none.mpr fun t m e => h (List.mem_map.mpr ⟨t, m, of_decide_eq_true e⟩)]
  rfl
theorem lookT_at : ∀ {ts : List Term} {t : Term}, (ts.map fun t => t.1).Nodup → t ∈ ts → lookT ts t.1 = some t.2
  | [], _, _, h => by cases h
  | u :: ts, t, nd, h => by
    rw [List.map_cons, List.nodup_cons] at nd
    by_cases c : u.1 = t.1
    · rcases List.mem_cons.mp h with rfl | m
      · simp [lookT]
      · exact absurd (List.mem_map.mpr ⟨t, m, rfl⟩) (c ▸ nd.1)
    · rcases List.mem_cons.mp h with rfl | m
      · exact absurd rfl c
      · have := lookT_at nd.2 m
        unfold lookT at this ⊢
        rw [List.find?_cons_of_neg (by simpa using c)]
        exact this
theorem lookT_some {ts : List Term} {z : Spot} {q : Rat} (h : lookT ts z = some q) : (z, q) ∈ ts := by
  unfold lookT at h
  cases e : ts.find? fun t => decide (t.1 = z) with
  | none => rw [e] at h; cases h
  | some t =>
    rw [e] at h
    have a : t.1 = z := by simpa using List.find?_some e
    have b : t.2 = q := Option.some.inj h
    rw [← a, ← b]
    exact List.mem_of_find?_eq_some e
theorem lookT_is {ts : List Term} {z : Spot} : lookT ts z = none ↔ z ∉ ts.map fun t => t.1 := by
  refine ⟨fun h m => ?_, lookT_none⟩
  obtain ⟨t, mt, e⟩ := List.mem_map.mp m
  unfold lookT at h
  rw [Option.map_eq_none_iff, List.find?_eq_none] at h
  exact h t mt (decide_eq_true e)
structure GoodT (ts : List Term) : Prop where
  nd : (ts.map fun t => t.1).Nodup
  g : ts[0]? = some (gr, 0)
  ok : ∀ t ∈ ts, SpB t.1
  sz : ∀ t ∈ ts, Sz (10 ^ 40) t.2
  len : ts.length ≤ 40
/-- a spot is asked for -/
def AskT (K : PySem.W.Frag) (H : Hp) (w : V) (ts : List Term) (o : Option Rat) : Prop := (∃ z, SpotX H w z ∧ lookT ts z = o) ∨ ∃ d, Dp K H w d ∧ isSpotD d = false ∧ o = none
theorem askt_ex {K : PySem.W.Frag} {H H' : Hp} {w : V} {ts : List Term} {o : Option Rat} (h : AskT K H w ts o) (e : Ex H H') : AskT K H' w ts o := h.imp (fun ⟨z, a, b⟩ => ⟨z, spot_im a e.im, b⟩) fun ⟨d, a, b⟩ => ⟨d, dp_ex e _ _ a, b⟩
/-- NoSpot with this -/
def NoE (cS : Addr) (w : V) (H : Hp) (E : XK) : Prop := ∀ e H', Ex H H' → H' e = some (.xd [("spot", w)]) → E (.ref cS) (some e) H'
theorem NoE.ex {cS : Addr} {w : V} {H H' : Hp} {E : XK} (h : NoE cS w H E) (e : Ex H H') : NoE cS w H' E := fun a H2 e2 f => h a H2 (e.tr e2) f
/-- a wrong pair behind the pairs ts -/
def BadP (K : PySem.W.Frag) (H : Hp) (x : V) (ts : List Term) : Prop := (∃ d, Dp K H x d ∧ SeqAt.shaped d = true ∧ isPairD d = false) ∨
  ∃ q a b z r, x = .ref q ∧ SqT K H q [a, b] ∧ SpotX H a z ∧ SpOk z ∧ RQ K H b r ∧ (z ∈ (ts.map fun t => t.1) ∨ (ts = [] ∧ (z, r) ≠ (gr, 0)))
theorem badp_ex {K : PySem.W.Frag} {H H' : Hp} {x : V} {ts : List Term} (h : BadP K H x ts) (e : Ex H H') : BadP K H' x ts := h.imp (fun ⟨d, a, b⟩ => ⟨d, dp_ex e _ _ a, b⟩) fun ⟨q, a, b, z, r, h1, h2, h3, h4, h5, h6⟩ => ⟨q, a, b, z, r, h1, Ex.st h2 e, spot_im h3 e.im, h4, rq_ex h5 e, h6⟩
/-- a row with a first wrong pair (or none at all) -/
def BadR (K : PySem.W.Frag) (H : Hp) (us : List V) (ts : List Term) : Prop := us.length ≤ 60 ∧ TermsAt K H (us.take ts.length) ts ∧ (ts.map fun t => t.1).Nodup ∧ (ts ≠ [] → ts[0]? = some (gr, 0)) ∧ (∀ t ∈ ts, SpOk t.1) ∧ ((us = [] ∧ ts = []) ∨ ∃ x, us[ts.length]? = some x ∧ BadP K H x ts)
theorem badr_ex {K : PySem.W.Frag} {H H' : Hp} {us : List V} {ts : List Term} (h : BadR K H us ts) (e : Ex H H') : BadR K H' us ts := let ⟨h1, h2, h3, h4, h5, h6⟩ := h; ⟨h1, terms_im h2 e.im, h3, h4, h5, h6.imp id fun ⟨x, a, b⟩ => ⟨x, a, badp_ex b e⟩⟩
section
variable (K : PySem.W.Frag) (C cS cX : Addr)
/-- a World of these pairs -/
def WT (H : Hp) (v : V) (ts : List Term) : Prop := WorldAt K C H v (ts.map fun t => t.1) (ts.map fun t => ratP t.2)
def BadW (i : Int) (H : Hp) (E : XK) : Prop := ∀ e H', Ex H H' → H' e = some (.xd [("place", .int i)]) → E (.ref cX) (some e) H'
def spTableB : Sp := fun vs H Q E => ∃ p us ts, vs = [.ref p] ∧ SqA K H p us ∧
  ((TermsAt K H us ts ∧ GoodT ts ∧ ∀ d ws H', Ex H H' → H' d = some (.dT (tabW (ts.map fun t => t.1) ws)) → ws.length = (ts.map fun t => t.1).length → RatsX K H' ws (ts.map fun t => ratP t.2) → Q (.ref d) H') ∨ (BadR K H us ts ∧ BadW cX (ts.length : Nat) H E))
def spInitB : Sp := fun vs H Q E => ∃ x dx p us ts, vs = [.ref x, .ref p] ∧ H x = some (.ins C dx []) ∧ SqA K H p us ∧
  ((TermsAt K H us ts ∧ GoodT ts ∧ ∀ H', (∀ a o, a ≠ x → H a = some o → H' a = some o) → WT K C H' (.ref x) ts → Q .non H') ∨ (BadR K H us ts ∧ ∀ e H', (∀ a o, a ≠ x → H a = some o → H' a = some o) → H' e = some (.xd [("place", .int (ts.length : Nat))]) → E (.ref cX) (some e) H'))
def spGetB : Sp := fun vs H Q E => ∃ v w ts o, vs = [v, w] ∧ WT K C H v ts ∧ (ts.map fun t => t.1).Nodup ∧ AskT K H w ts o ∧ (∀ q, o = some q → ∀ u, RQ K H u q → Q u H) ∧ (o = none → NoE cS w H E)
def spContB : Sp := fun vs H Q E => ∃ v w ts o, vs = [v, w] ∧ WT K C H v ts ∧ (ts.map fun t => t.1).Nodup ∧ AskT K H w ts o ∧ Q (.bl o.isSome) H
/-- the same pairs, in any order -/
def sameT (ts us : List Term) : Bool := decide (ts.length = us.length) && ts.all fun t => decide (lookT us t.1 = some t.2)
/-- things that are no Worlds -/
def OtherV (H : Hp) (w : V) : Prop := w = .non ∨ (∃ i, w = .int i) ∨ (∃ s, w = .str s) ∨ (∃ q us, w = .ref q ∧ SqT K H q us) ∨ ∃ q us, w = .ref q ∧ H q = some (.lst us)
def spEqB : Sp := fun vs H Q E => ∃ v w ts, vs = [v, w] ∧ WT K C H v ts ∧ GoodT ts ∧ ((∃ us, WT K C H w us ∧ GoodT us ∧ ∀ H', Ex H H' → Q (.bl (sameT ts us)) H') ∨ (OtherV K H w ∧ Q (.bl false) H))
def spGapB : Sp := fun vs H Q E => ∃ v a b ts oa ob, vs = [v, a, b] ∧ WT K C H v ts ∧ GoodT ts ∧ AskT K H a ts oa ∧ AskT K H b ts ob ∧ (∀ p q, oa = some p → ob = some q → ∀ u H', Ex H H' → RQ K H' u (q - p) → Q u H') ∧ (oa = none → NoE cS a H E) ∧ (∀ p, oa = some p → ob = none → NoE cS b H E)
def spKeepsB : Sp := fun vs H Q E => ∃ v l a b y ts oa ob, ∃ n : Int, vs = [v, .ref l] ∧ SqT K H l [a, b, .int n, y] ∧ n.natAbs ≤ 10 ^ 100 ∧ WT K C H v ts ∧ GoodT ts ∧ AskT K H a ts oa ∧ AskT K H b ts ob ∧ (∀ p q, oa = some p → ob = some q → ∀ H', Ex H H' → Q (.bl (decide (q - p ≤ (n : Rat)))) H') ∧ (oa = none → NoE cS a H E) ∧ (∀ p, oa = some p → ob = none → NoE cS b H E)
/-- the spots that the one or the other lacks, in order -/
def lostT (ts us : List Term) : List Spot := ((ts.map fun t => t.1).filter fun z => decide (z ∉ us.map fun t => t.1)) ++ (us.map fun t => t.1).filter fun z => decide (z ∉ ts.map fun t => t.1)
def mixR (sg : Int) (a b : Rat) : Rat := if cmpQ b a = sg then b else a
def mixT (sg : Int) (ts us : List Term) : List Term := ts.map fun t => (t.1, mixR sg t.2 ((lookT us t.1).getD 0))
def MixE (H : Hp) (E : XK) (ts us : List Term) : Prop := ∀ z r, lostT ts us = z :: r → ∀ e x H', Ex H H' → SpotX H' x z → H' e = some (.xd [("spot", x)]) → E (.ref cS) (some e) H'
def spMixedB : Sp := fun vs H Q E => ∃ v w ts us, ∃ sg : Int, vs = [v, w, .int sg] ∧ WT K C H v ts ∧ WT K C H w us ∧ GoodT ts ∧ GoodT us ∧ (sg = 1 ∨ sg = -1) ∧ MixE cS H E ts us ∧ (lostT ts us = [] → ∀ u H', Ex H H' → WT K C H' u (mixT sg ts us) → Q u H')
def spHigherB (sg : Int) : Sp := fun vs H Q E => ∃ v w ts us, vs = [v, w] ∧ WT K C H v ts ∧ WT K C H w us ∧ GoodT ts ∧ GoodT us ∧ MixE cS H E ts us ∧ (lostT ts us = [] → ∀ u H', Ex H H' → WT K C H' u (mixT sg ts us) → Q u H')
/-! the law's own -/
def spSomeT : Sp := fun vs H Q E => ∃ b p us, vs = [.ref b, .ref p] ∧ BagAt H b ∧ H p = some (.lst us) ∧ us.length ≤ 1000 ∧ ∀ q ws H', Kb b H H' → ws.Sublist us → H' q = some (.lst ws) → H q = none → Q (.ref q) H'
def spWordD : Sp := fun vs H Q E => ∃ b, vs = [.ref b] ∧ BagAt H b ∧ ∀ (z : Str) H', Kb b H H' → z.length ≤ 4 → PyData.strOk z = true → Q (.str z) H'
def spWholeD : Sp := fun vs H Q E => ∃ b, vs = [.ref b] ∧ BagAt H b ∧ ∀ (i : Int) H', Kb b H H' → i.natAbs ≤ 10 ^ 14 → Q (.int i) H'
/-- drawn spots -/
structure SpsD (zs : List Spot) : Prop where
  nd : zs.Nodup
  g : zs[0]? = some gr
  ok : ∀ z ∈ zs, SpOk z ∧ z.1.length ≤ 10 ∧ z.2.1.natAbs ≤ 10 ^ 16 ∧ z.2.2.natAbs ≤ 2 * 10 ^ 14
  len : zs.length ≤ 10
def spSpotsD : Sp := fun vs H Q E => ∃ b, ∃ n : Nat, vs = [.ref b, .int n] ∧ BagAt H b ∧ n ≤ 9 ∧ ∀ p us zs H', Kb b H H' → H' p = some (.lst us) → SpotsX H' us zs → SpsD zs → Q (.ref p) H'
def spStrangerD : Sp := fun vs H Q E => ∃ b p us zs, vs = [.ref b, .ref p] ∧ BagAt H b ∧ H p = some (.lst us) ∧ SpotsX H us zs ∧ 0 < zs.length ∧ zs.length ≤ 10 ∧ (∀ z ∈ zs, SpB z) ∧ ∀ v z H', Kb b H H' → SpotX H' v z → z ∉ zs → SpOk z → z.1.length ≤ 10 → z.2.1.natAbs ≤ 10 ^ 17 → z.2.2.natAbs ≤ 10 ^ 14 → Q v H'
def spRatD : Sp := fun vs H Q E => ∃ b, vs = [.ref b] ∧ BagAt H b ∧ ∀ v q H', Kb b H H' → RQ K H' v q → Sz (10 ^ 30) q → Q v H'
def spTold : Sp := fun vs H Q E => ∃ v p us ts, vs = [v, .ref p] ∧ WT K C H v ts ∧ GoodT ts ∧ H p = some (.lst us) ∧ TermsAt K H us ts ∧ ∀ H', Ex H H' → Q (.bl true) H'
def spLacksB (a : Addr) (c : Value) (d : Option Addr) : Sp := fun vs H Q E => ∃ dd v w dt, vs = [.ref a, w] ∧ c = .ref cS ∧ d = some dd ∧ H dd = some (.xd [("spot", v)]) ∧ Dp K H v dt ∧ Dp K H w dt ∧ Shw dt ∧ ∀ H', Ex H H' → Q (.bl true) H'
/-- data that is no spot -/
def Alike (H : Hp) (v : V) : Prop := ∃ (q : Addr) (x : Str) (y z : V) (c : Bool) (i : Int), v = .ref q ∧ SqT K H q [.str x, y, z] ∧ ((y = .bl c ∧ z = .int i) ∨ (y = .int i ∧ z = .bl c)) ∧ PyData.strOk x = true ∧ x.length ≤ 10 ∧ i.natAbs ≤ 10 ^ 20
def spAlikes : Sp := fun vs H Q E => ∃ v z, vs = [v] ∧ SpotX H v z ∧ SpB z ∧ ∀ p us H', Ex H H' → H p = none → H' p = some (.lst us) → us.length ≤ 4 → (∀ u ∈ us, Alike K H' u) → Q (.ref p) H'
def spStrange : Sp := fun vs H Q E => ∃ v a b w dt ts oa ob, vs = [v, a, b, w] ∧ WT K C H v ts ∧ GoodT ts ∧ AskT K H a ts oa ∧ AskT K H b ts ob ∧ AskT K H w ts none ∧ Dp K H w dt ∧ Shw dt ∧ ((oa = none ∧ w = a) ∨ (∃ p, oa = some p ∧ ob = none ∧ w = b)) ∧ ∀ H', Ex H H' → Q (.bl true) H'
def spEqDue : Sp := fun vs H Q E => ∃ b v p us ts, vs = [.ref b, v, .ref p] ∧ BagAt H b ∧ WT K C H v ts ∧ GoodT ts ∧ (∀ t ∈ ts, Sz (10 ^ 30) t.2) ∧ ts.length ≤ 10 ∧ H p = some (.lst us) ∧ TermsAt K H us ts ∧ ∀ H', Kb b H H' → Q (.bl true) H'
def spMixDue : Sp := fun vs H Q E => ∃ v w p q us ws ts ys, vs = [v, w, .ref p, .ref q] ∧ WT K C H v ts ∧ WT K C H w ys ∧ GoodT ts ∧ GoodT ys ∧ H p = some (.lst us) ∧ TermsAt K H us ts ∧ H q = some (.lst ws) ∧ TermsAt K H ws ys ∧ ∀ H', Ex H H' → Q (.bl true) H'
/-- lists and dicts: what may change -/
def MutS (H : Hp) (S : List Addr) : Prop := ∀ a ∈ S, ∃ o, H a = some o ∧ ¬ Imm o
/-- a wrong pair, whatever becomes of the objects at S -/
def BadS (S : List Addr) (H : Hp) (x : V) (ts : List Term) : Prop := (∃ d, RDp S K H x d ∧ SeqAt.shaped d = true ∧ isPairD d = false) ∨
  ∃ q a b z r, x = .ref q ∧ SqT K H q [a, b] ∧ SpotX H a z ∧ SpOk z ∧ RQ K H b r ∧ (z ∈ (ts.map fun t => t.1) ∨ (ts = [] ∧ (z, r) ≠ (gr, 0)))
def spWrongPair : Sp := fun vs H Q E => ∃ b p us ts, ∃ n : Nat, vs = [.ref b, .ref p, .int n] ∧ BagAt H b ∧ H p = some (.lst us) ∧ TermsAt K H us ts ∧ GoodT ts ∧ (∀ t ∈ ts, Sz (10 ^ 30) t.2) ∧ ts.length ≤ 10 ∧ n < ts.length ∧ ∀ v H', Kb b H H' → (∀ S, MutS H S → b ∈ S → BadS K S H' v (ts.take n)) → Q v H'
def spWrongRows : Sp := fun vs H Q E => ∃ b p us ts, vs = [.ref b, .ref p] ∧ BagAt H b ∧ H p = some (.lst us) ∧ TermsAt K H us ts ∧ GoodT ts ∧ (∀ t ∈ ts, Sz (10 ^ 30) t.2) ∧ ts.length ≤ 10 ∧ ∀ H', Kb b H H' → Q (.bl true) H'
def spKnown : Sp := fun vs H Q E => ∃ b p us zs, vs = [.ref b, .ref p] ∧ BagAt H b ∧ H p = some (.lst us) ∧ SpotsX H us zs ∧ SpsD zs ∧ ∀ H', Kb b H H' → Q (.bl true) H'
def spIntH (a : Addr) (c : Value) (d : Option Addr) : Sp := fun vs H Q E => ∃ i : Int, vs = [.int i] ∧ Q (.bl true) H
end
theorem wt_im {K : PySem.W.Frag} {C : Addr} {H H' : Hp} {v : V} {ts : List Term} (h : WT K C H v ts) (m : Im H H') : WT K C H' v ts := let ⟨a, dx, d, vs, h1, h2, h3, h4, h5⟩ := h; ⟨a, dx, d, vs, h1, m _ _ trivial h2, m _ _ trivial h3, h4, rats_im h5 m⟩
theorem spots_cons {H : Hp} {v : V} {z : Spot} {vs : List V} {zs : List Spot} (a : SpotX H v z) (h : SpotsX H vs zs) : SpotsX H (v :: vs) (z :: zs) := ⟨by rw [List.length_cons, List.length_cons, h.len], fun i u y h1 h2 => by
  cases i with
  | zero => cases h1; cases h2; exact a
  | succ i => exact h.at_ i u y (by simpa using h1) (by simpa using h2)⟩
theorem keys_spots {H : Hp} : ∀ {zs : List Spot} {vs : List V} {bs : List Addr}, vs.length = zs.length → IsKeys H (tabW zs vs) bs → SpotsX H (bs.map V.ref) zs ∧ keyPs (tabW zs vs) bs = ((bs.map V.ref).zip zs).map fun p => (p.1, spotD p.2)
  | [], [], bs, _, h => by
    cases h
    exact ⟨SpotsX.nil, rfl⟩
  | [], _ :: _, _, l, _ => by cases l
  | _ :: _, [], _, l, _ => by cases l
  | z :: zs, v :: vs, bs, l, h => by
    have h' : Paired (fun p b => H b = some (.tup (p.1.map kV))) ((keyS z, v) :: tabW zs vs) bs := h
    cases h' with
    | @cons _ b _ bs q t =>
      obtain ⟨a1, a2⟩ := keys_spots (zs := zs) (vs := vs) (bs := bs) (by simpa using l) t
      refine ⟨spots_cons ⟨b, rfl, q⟩ a1, ?_⟩
      show (V.ref b, keyD (keyS z)) :: keyPs (tabW zs vs) bs = _
      rw [a2]
      rfl
theorem terms_app {K : PySem.W.Frag} {H : Hp} {vs : List V} {ts : List Term} {v : V} {t : Term} (h : TermsAt K H vs ts) (a : TermAt K H v t) : TermsAt K H (vs ++ [v]) (ts ++ [t]) := ⟨by rw [List.length_append, List.length_append, h.len]; rfl, fun i w u h1 h2 => by
  have hl := h.len
  by_cases z : i < vs.length
  · rw [List.getElem?_append_left z] at h1
    rw [List.getElem?_append_left (by omega)] at h2
    exact h.at_ i w u h1 h2
  · rw [List.getElem?_append_right (by omega)] at h1
    rw [List.getElem?_append_right (by omega), ← hl] at h2
    obtain ⟨m, hm⟩ : ∃ m, i - vs.length = m := ⟨_, rfl⟩
    rw [hm] at h1 h2
    cases m with
    | zero => cases h1; cases h2; exact a
    | succ m => cases h1⟩
theorem term_pair {t : Term} (h : SpOk t.1) : isPairD (termD t) = true := by
  show (isSpotD (spotD t.1) && isRatD (ratD t.2)) = true
  rw [ratD_is]
  rfl
theorem pair_ne {ds : List PyData} (h : ds.length ≠ 2) : isPairD (.tuple ds) = false := by
  unfold isPairD
  split
  · rename_i a b q
    cases q
    exact absurd rfl h
  · rfl
theorem terms_cat {K : PySem.W.Frag} {H : Hp} {us vs : List V} {ts ws : List Term} (h : TermsAt K H us ts) (g : TermsAt K H vs ws) : TermsAt K H (us ++ vs) (ts ++ ws) := ⟨by rw [List.length_append, List.length_append, h.len, g.len], fun i w u h1 h2 => by
  have hl := h.len
  by_cases z : i < us.length
  · rw [List.getElem?_append_left z] at h1
    rw [List.getElem?_append_left (by omega)] at h2
    exact h.at_ i w u h1 h2
  · rw [List.getElem?_append_right (by omega)] at h1
    rw [List.getElem?_append_right (by omega), ← hl] at h2
    exact g.at_ _ w u h1 h2⟩
theorem spots_perm {H : Hp} : ∀ {ws us : List V}, ws.Perm us → ∀ {ps : List Spot}, SpotsX H us ps → ∃ zs, SpotsX H ws zs ∧ zs.Perm ps := by
  intro ws us h
  induction h with
  | nil =>
    intro ps hx
    exact ⟨ps, hx, .refl _⟩
  | @cons x l1 l2 _ ih =>
    intro ps hx
    match ps, hx with
    | [], hx => cases hx.len
    | z :: ps, hx =>
      obtain ⟨zs, h1, h2⟩ := ih (ps := ps) ⟨by simpa using hx.len, fun i v z a b => hx.at_ (i + 1) v z a b⟩
      exact ⟨z :: zs, spots_cons (hx.at_ 0 x z rfl rfl) h1, h2.cons z⟩
  | @swap x y l =>
    intro ps hx
    match ps, hx with
    | [], hx => cases hx.len
    | [_], hx => have := hx.len; simp at this
    | z1 :: z2 :: ps, hx =>
      refine ⟨z2 :: z1 :: ps, spots_cons (hx.at_ 1 y z2 rfl rfl) (spots_cons (hx.at_ 0 x z1 rfl rfl) ⟨by simpa using hx.len, fun i v z a b => hx.at_ (i + 2) v z a b⟩), .swap _ _ _⟩
  | trans _ _ ih1 ih2 =>
    intro ps hx
    obtain ⟨zs, h1, h2⟩ := ih2 hx
    obtain ⟨ys, h3, h4⟩ := ih1 h1
    exact ⟨ys, h3, h4.trans h2⟩
theorem terms_perm {K : PySem.W.Frag} {H : Hp} : ∀ {ws us : List V}, ws.Perm us → ∀ {ts : List Term}, TermsAt K H us ts → ∃ ys, TermsAt K H ws ys ∧ ys.Perm ts := by
  have cons : ∀ {v : V} {t : Term} {vs : List V} {ts : List Term}, TermAt K H v t → TermsAt K H vs ts → TermsAt K H (v :: vs) (t :: ts) := fun {v t vs ts} a h => ⟨by rw [List.length_cons, List.length_cons, h.len], fun i u y h1 h2 => by
    cases i with
    | zero => cases h1; cases h2; exact a
    | succ i => exact h.at_ i u y (by simpa using h1) (by simpa using h2)⟩
  intro ws us h
  induction h with
  | nil =>
    intro ts hx
    exact ⟨ts, hx, .refl _⟩
  | @cons x l1 l2 _ ih =>
    intro ts hx
    match ts, hx with
    | [], hx => cases hx.len
    | t :: ts, hx =>
      obtain ⟨zs, h1, h2⟩ := ih (ts := ts) ⟨by simpa using hx.len, fun i v z a b => hx.at_ (i + 1) v z a b⟩
      exact ⟨t :: zs, cons (hx.at_ 0 x t rfl rfl) h1, h2.cons t⟩
  | @swap x y l =>
    intro ts hx
    match ts, hx with
    | [], hx => cases hx.len
    | [_], hx => have := hx.len; simp at this
    | t1 :: t2 :: ts, hx =>
      exact ⟨t2 :: t1 :: ts, cons (hx.at_ 1 y t2 rfl rfl) (cons (hx.at_ 0 x t1 rfl rfl) ⟨by simpa using hx.len, fun i v z a b => hx.at_ (i + 2) v z a b⟩), .swap _ _ _⟩
  | trans _ _ ih1 ih2 =>
    intro ts hx
    obtain ⟨zs, h1, h2⟩ := ih2 hx
    obtain ⟨ys, h3, h4⟩ := ih1 h1
    exact ⟨ys, h3, h4.trans h2⟩
section
variable (K : PySem.W.Frag) (σ : L2.St) (H0 : Hp)
/-- data laid that no change of old lists and dicts touches -/
def DRE (te : TE) (d : PyData) : Prop := ∀ (H : Hp) (Q : VK), Ex H0 H → (∀ v H', Ex H H' → (∀ S, OffT H0 S → RDp S K H' v d) → Q v H') → te σ H Q
def DRA (ts : TA) (ds : List PyData) : Prop := ∀ (H : Hp) (Q : List V → Hp → Prop), Ex H0 H → (∀ vs H', Ex H H' → (∀ S, OffT H0 S → RDpA S K H' vs ds) → Q vs H') → ts σ H Q
end
section
variable {K : PySem.W.Frag} {σ : L2.St} {H0 : Hp}
theorem off_nil : OffT H0 [] := fun a m => by cases m
theorem off_fresh {H : Hp} {S : List Addr} {p : Addr} (e : Ex H0 H) (n : H p = none) (h : OffT H0 S) : p ∉ S := fun m => by
  obtain ⟨o, h1, _⟩ := h p m
  rw [e _ _ h1] at n
  cases n
theorem rdp_s {H : Hp} {S : List Addr} {s : Str} : RDp S K H (.str s) (.str s) := fun _ _ => .str s
theorem rdp_i {H : Hp} {S : List Addr} {i : Int} : RDp S K H (.int i) (.int i) := fun _ _ => .int i
theorem dr_int {i : Int} : DRE K σ H0 (tC (.int i)) (.int i) := fun H Q _ h => h _ _ (exR H) fun _ _ => rdp_i
theorem dr_str {s : Str} : DRE K σ H0 (tC (.str s)) (.str s) := fun H Q _ h => h _ _ (exR H) fun _ _ => rdp_s
theorem dr_bl {c : Bool} : DRE K σ H0 (tC (.bl c)) (.bool c) := fun H Q _ h => h _ _ (exR H) fun _ _ _ _ => .bl c
theorem dr_non : DRE K σ H0 (tC .non) .none := fun H Q _ h => h _ _ (exR H) fun _ _ _ _ => .non
theorem dr_neg {i : Int} : DRE K σ H0 (tUn (rU fun i => V.int (-i)) (tC (.int i))) (.int (-i)) := fun H Q _ h => ⟨i, rfl, h _ _ (exR H) fun _ _ => rdp_i⟩
theorem dr_nil : DRA K σ H0 tNil [] := fun H Q _ h => h _ _ (exR H) fun _ _ => rdpa_nil
theorem dr_cons {te : TE} {ts : TA} {d : PyData} {ds : List PyData} (h1 : DRE K σ H0 te d) (h2 : DRA K σ H0 ts ds) : DRA K σ H0 (tCons te ts) (d :: ds) := fun H Q e h =>
  h1 H _ e fun v H1 e1 r1 => h2 H1 _ (e.tr e1) fun vs H2 e2 r2 => h _ _ (e1.tr e2) fun S hS => rdpa_cons ((r1 S hS).mv fun a o _ q => e2 _ _ q) (r2 S hS)
theorem dr_tup {ts : TA} {ds : List PyData} (h : DRA K σ H0 ts ds) (l : ds.length ≤ 400) : DRE K σ H0 (tTup ts) (.tuple ds) := fun H Q e q => h H _ e fun vs H1 e1 r => ⟨by rw [rdpa_len (r [] off_nil)]; exact Nat.le_trans l (Nat.le_of_ble_eq_true rfl), fun p n => q _ _ (e1.tr (exN n)) fun S hS => rdp_t upd_same (off_fresh (e.tr e1) n hS) ((r S hS).mv fun a o _ z => exN n _ _ z)⟩
theorem dr_lst {ts : TA} {ds : List PyData} (h : DRA K σ H0 ts ds) (l : ds.length ≤ 400) : DRE K σ H0 (tLst ts) (.list ds) := fun H Q e q => h H _ e fun vs H1 e1 r => ⟨by rw [rdpa_len (r [] off_nil)]; exact Nat.le_trans l (Nat.le_of_ble_eq_true rfl), fun p n => q _ _ (e1.tr (exN n)) fun S hS => rdp_l upd_same (off_fresh (e.tr e1) n hS) ((r S hS).mv fun a o _ z => exN n _ _ z)⟩
theorem dr_v {i : Nat} {v : V} {d : PyData} (h : σ[i]? = some (some v)) (hd : ∀ S, OffT H0 S → RDp S K H0 v d) : DRE K σ H0 (tVar i) d := fun H Q e q => ⟨v, h, q v H (exR H) fun S hS => (hd S hS).mv fun a o _ z => e _ _ z⟩
theorem dr_ix {i j : Nat} {p : Addr} {xs : List V} {v : V} {d : PyData} (h : σ[i]? = some (some (.ref p))) (hs : SqT K H0 p xs) (hv : xs[j]? = some v) (hd : ∀ {H : Hp} {S : List Addr}, RDp S K H v d) : DRE K σ H0 (tOp (rIx K) (tVar i) (tC (.int (j : Nat)))) d := fun H Q e q => ⟨_, h, s_ixT (Ex.st hs e) (atI_nat hv) (q v H (exR H) fun S _ => hd)⟩
theorem s_drl {ts : TA} {ds : List PyData} {Q : VK} (h : DRA K σ H0 ts ds) (l : ds.length ≤ 400) (k : ∀ p vs H', H0 p = none → Ex H0 H' → H' p = some (.lst vs) → vs.length = ds.length → (∀ S, OffT H0 S → RDpA S K H' vs ds) → Q (.ref p) H') : tLst ts σ H0 Q := h H0 _ (exR H0) fun vs H1 e1 r => ⟨by rw [rdpa_len (r [] off_nil)]; exact Nat.le_trans l (Nat.le_of_ble_eq_true rfl), fun p n => k p vs _ (by
  cases q : H0 p with
  | none => rfl
  | some o => rw [e1 _ _ q] at n; cases n) (e1.tr (exN n)) upd_same (rdpa_len (r [] off_nil)) fun S hS => (r S hS).mv fun a o _ z => exN n _ _ z⟩
end
theorem shape3 {d : PyData} (a : d.canLay0 = true) (b : d.depth ≤ 3) : SeqAt.shaped d = true := by rw [SeqAt.shaped, a, Bool.true_and, decide_eq_true_eq]; exact Nat.le_trans b (Nat.le_of_ble_eq_true rfl)
theorem bag_dk {H : Hp} {b : Addr} (h : BagAt H b) : ∃ kvs, H b = some (.dK kvs) := by
  obtain ⟨_, _, _, _, _, _, h⟩ := h
  exact ⟨_, h.1⟩
theorem kb_off {b : Addr} {H H' : Hp} {S : List Addr} (k : Kb b H H') (bS : b ∈ S) : ∀ a o, a ∉ S → H a = some o → H' a = some o := fun a o n q => k.keep a o (fun z => n (z ▸ bS)) q
theorem insert_at {xs : List V} {y : V} {m : Nat} (h : m ≤ xs.length) : (xs.take m ++ [y] ++ xs.drop m).take m = xs.take m ∧ (xs.take m ++ [y] ++ xs.drop m)[m]? = some y ∧ (xs.take m ++ [y] ++ xs.drop m).length = xs.length + 1 := by
  have l : (xs.take m).length = m := by rw [List.length_take]; omega
  refine ⟨?_, ?_, ?_⟩
  · rw [List.append_assoc, List.take_append_of_le_length (by omega), List.take_of_length_le (by omega)]
  · rw [List.append_assoc, List.getElem?_append_right (by omega), l, Nat.sub_self]
    rfl
  · rw [List.length_append, List.length_append, l, List.length_drop]
    show m + 1 + _ = _
    omega
theorem terms_take {K : PySem.W.Frag} {H : Hp} {us : List V} {ts : List Term} (h : TermsAt K H us ts) (n : Nat) : TermsAt K H (us.take n) (ts.take n) := ⟨by rw [List.length_take, List.length_take, h.len], fun i v t a b => by
  rw [List.getElem?_take] at a b
  split at a
  · rename_i c
    rw [if_pos c] at b
    exact h.at_ i v t a b
  · cases a⟩
theorem cutV_none (xs : List V) (hi : Option Int) : cutV xs none hi = xs.take (HT.sIx xs.length xs.length hi) := by
  have e0 : HT.sIx xs.length 0 none = 0 := rfl
  unfold cutV
  rw [e0, List.drop_zero, Nat.sub_zero]
theorem cutV_from (xs : List V) (a : Nat) (h : a ≤ xs.length) : cutV xs (some (a : Int)) none = xs.drop a := by
  have e : HT.sIx xs.length 0 (some (a : Int)) = a := by
    rw [HT.sIx_nat]
    exact Nat.min_eq_left h
  have e0 : HT.sIx xs.length xs.length none = xs.length := rfl
  unfold cutV
  rw [e, e0]
  exact List.take_of_length_le (by rw [List.length_drop]; omega)
theorem lcF {K : PySem.W.Frag} {σ : L2.St} {H : Hp} {p : Addr} {us : List V} {zs : List Spot} {g : TG} {tt : TT} {te : TE} {vs : List Nat} {Q : VK} (hp : SqL K H p us) (hx : SpotsX H us zs) (f : Spot → Bool) (len : zs.length ≤ 1000)
    (fin : ∀ D ys H', H D = none → Ex H H' → H' D = some (.lst ys) → SpotsX H' ys (zs.filter f) → Q (.ref D) H')
    (step : ∀ (C : V → Hp → Prop) (C' : Hp → Prop) (i : Nat) (x : V) (z : Spot) (H' : Hp), us[i]? = some x → zs[i]? = some z → SpotX H' x z → Ex H H' → (f z = true → C x H') → (f z = false → C' H') → g x (wipe σ vs) H' fun σ2 H3 => wipe σ2 vs = wipe σ vs ∧ tt σ2 H3 fun b H4 => if b = true then te σ2 H4 C else C' H4) :
    ∃ a, V.ref p = V.ref a ∧ (∃ xs, SqL K H a xs) ∧ LcR (Itl K a) g tt te vs Q σ H := by
  have ul := hx.len
  refine lcL hp (fun D i acc H' => Ex H H' ∧ H' D = some (.lst acc) ∧ SpotsX H' acc ((zs.take i).filter f)) (fun D n => ⟨exN n, upd_same, SpotsX.nil⟩) (fun D i acc H' h => h.1) ?_ ?_
  · rintro D acc H' nD ⟨e, hD, s⟩
    rw [ul, List.take_length] at s
    exact fin D acc H' nD e hD s
  · rintro D i x acc H' nD hxi ⟨e, hD, s⟩
    have il := (List.getElem?_eq_some_iff.mp hxi).1
    obtain ⟨z, hz⟩ : ∃ z, zs[i]? = some z := ⟨_, List.getElem?_eq_getElem (by omega)⟩
    have tk : (zs.take (i + 1)).filter f = (zs.take i).filter f ++ [z].filter f := by
      rw [List.take_add_one, hz, List.filter_append]
      rfl
    have al : acc.length ≤ 1000 := by
      rw [s.len]
      refine Nat.le_trans (List.length_filter_le _ _) ?_
      rw [List.length_take]
      omega
    have sx := spot_im (hx.at_ i x z hxi hz) e.im
    have m : Im H' (upd H' D (.lst (acc ++ [x]))) := im_mut (.inl ⟨_, hD⟩)
    refine step _ _ i x z H' hxi hz sx e (fun c => ?_) (fun c => ?_)
    · refine ⟨acc, hD, by show _ < 16777216; omega, acc ++ [x], ex_put nD e, upd_same, ?_⟩
      rw [tk, List.filter_cons_of_pos c]
      exact SpotsX.app (spots_im s m) (spot_im sx m)
    · refine ⟨acc, e, hD, ?_⟩
      rw [tk, List.filter_cons_of_neg (by rw [c]; exact Bool.false_ne_true), List.filter_nil, List.append_nil]
      exact s
theorem nodup_le : ∀ {as bs : List Spot}, as.Nodup → (∀ z ∈ as, z ∈ bs) → as.length ≤ bs.length
  | [], _, _, _ => Nat.zero_le _
  | a :: as, bs, nd, h => by
    have nd' := List.nodup_cons.mp nd
    have l := nodup_le (as := as) (bs := bs.erase a) nd'.2 fun z m => (List.mem_erase_of_ne (fun e : z = a => nd'.1 (by rw [← e]; exact m))).mpr (h z (List.mem_cons_of_mem _ m))
    have m := h a List.mem_cons_self
    rw [List.length_erase_of_mem m] at l
    have := List.length_pos_of_mem m
    rw [List.length_cons]
    omega
/-! ### lists of what is told -/
theorem terms_spots {K : PySem.W.Frag} {H : Hp} {us : List V} {ts : List Term} (h : TermsAt K H us ts) : us.length = ts.length := h.len
theorem s_keysL {H : Hp} {Q : VK} {d : Addr} {zs : List Spot} {vs : List V} (hd : H d = some (.dT (tabW zs vs))) (vl : vs.length = zs.length) (k : ∀ p us H', H p = none → Ex H H' → H' p = some (.lst us) → SpotsX H' us zs → Q (.ref p) H') :
    rKeysL [.ref d] H Q := by
  refine ⟨d, _, rfl, .inl hd, fun p bs np hk => ?_⟩
  exact k p _ _ np (exN np) upd_same (spots_im (keys_spots vl hk).1 (exN np).im)
theorem terms_sub {K : PySem.W.Frag} {H : Hp} : ∀ {ws us : List V}, ws.Sublist us → ∀ {ts : List Term}, TermsAt K H us ts → ∃ ys, TermsAt K H ws ys ∧ ys.Sublist ts := by
  intro ws us h
  induction h with
  | slnil => intro ts ht; exact ⟨[], ⟨rfl, fun i v t a => by cases a⟩, List.nil_sublist _⟩
  | @cons l1 l2 a _ ih =>
    intro ts ht
    cases ts with
    | nil => exact absurd ht.len (by simp)
    | cons t ts =>
      obtain ⟨ys, h1, h2⟩ := ih (ts := ts) ⟨by simpa using ht.len, fun i v t a b => ht.at_ (i + 1) v t a b⟩
      exact ⟨ys, h1, h2.cons t⟩
  | @cons_cons l1 l2 a _ ih =>
    intro ts ht
    cases ts with
    | nil => exact absurd ht.len (by simp)
    | cons t ts =>
      obtain ⟨ys, h1, h2⟩ := ih (ts := ts) ⟨by simpa using ht.len, fun i v t a b => ht.at_ (i + 1) v t a b⟩
      refine ⟨t :: ys, ⟨by simp [h1.len], fun i v u x y => ?_⟩, h2.cons_cons t⟩
      cases i with
      | zero => cases x; cases y; exact ht.at_ 0 _ _ rfl rfl
      | succ i => exact h1.at_ i v u (by simpa using x) (by simpa using y)
/-! ### the mixture of two worlds -/
theorem lost_none {ts us : List Term} (h : lostT ts us = []) : (∀ t ∈ ts, t.1 ∈ us.map fun t => t.1) ∧ ∀ u ∈ us, u.1 ∈ ts.map fun t => t.1 := by
  unfold lostT at h
  obtain ⟨a, b⟩ := List.append_eq_nil_iff.mp h
  rw [List.filter_eq_nil_iff] at a b
  exact ⟨fun t m => by simpa using a t.1 (List.mem_map_of_mem m), fun u m => by simpa using b u.1 (List.mem_map_of_mem m)⟩
theorem mix_fst {sg : Int} {ts us : List Term} : (mixT sg ts us).map (fun t => t.1) = ts.map fun t => t.1 := by
  unfold mixT
  rw [List.map_map]
  rfl
theorem mix_good {sg : Int} {ts us : List Term} (G : GoodT ts) (G2 : GoodT us) (h : sg = 1 ∨ sg = -1) : GoodT (mixT sg ts us) := by
  refine ⟨by rw [mix_fst]; exact G.nd, ?_, fun t m => ?_, fun t m => ?_, by unfold mixT; rw [List.length_map]; exact G.len⟩
  · unfold mixT
    rw [List.getElem?_map, G.g]
    have e : lookT us gr = some 0 := by
      have := lookT_at G2.nd (List.mem_of_getElem? G2.g)
      exact this
    show some (gr, mixR sg 0 ((lookT us gr).getD 0)) = _
    rw [e]
    show some (gr, mixR sg 0 0) = _
    have : mixR sg 0 0 = 0 := by unfold mixR; split <;> rfl
    rw [this]
  · obtain ⟨u, m', rfl⟩ := List.mem_map.mp m
    exact G.ok u m'
  · obtain ⟨u, m', rfl⟩ := List.mem_map.mp m
    show Sz _ (mixR sg u.2 ((lookT us u.1).getD 0))
    have z0 : Sz (10 ^ 40) (0 : Rat) := ⟨by decide, by decide⟩
    unfold mixR
    split
    · cases e : lookT us u.1 with
      | none => exact z0
      | some q => exact G2.sz _ (lookT_some e)
    · exact G.sz u m'
theorem lost_step {zs : List Spot} {P : Spot → Prop} [DecidablePred P] {i : Nat} {z : Spot} (hz : zs[i]? = some z) (all : ∀ y ∈ zs.take i, ¬ P y) (h : P z) : ∃ r, zs.filter (fun y => decide (P y)) = z :: r := by
  have e : zs = zs.take i ++ z :: zs.drop (i + 1) := by
    obtain ⟨h1, h2⟩ := List.getElem?_eq_some_iff.mp hz
    rw [← h2, ← List.drop_eq_getElem_cons h1, List.take_append_drop]
  refine ⟨(zs.drop (i + 1)).filter fun y => decide (P y), ?_⟩
  have f : (zs.take i).filter (fun y => decide (P y)) = [] := List.filter_eq_nil_iff.mpr fun y m => by simpa using all y m
  calc zs.filter (fun y => decide (P y)) = (zs.take i ++ z :: zs.drop (i + 1)).filter (fun y => decide (P y)) := by rw [← e]
    _ = _ := by rw [List.filter_append, f, List.nil_append, List.filter_cons_of_pos (by simpa using h)]
theorem take_all {zs : List Spot} {P : Spot → Prop} {i : Nat} {z : Spot} (hz : zs[i]? = some z) (all : ∀ y ∈ zs.take i, P y) (h : P z) : ∀ y ∈ zs.take (i + 1), P y := fun y m => by
  rw [List.take_add_one, hz] at m
  rcases List.mem_append.mp m with m | m
  · exact all y m
  · rw [show y = z by simpa using m]
    exact h
/-! ### more -/
theorem lcFst {K : PySem.W.Frag} {σ : L2.St} {H : Hp} {g : TG} {te : TE} {vs : List Nat} {Q : VK} {p : Addr} {us : List V} {ts : List Term} (hp : SqL K H p us) (ht : TermsAt K H us ts) (len : ts.length ≤ 1000)
    (fin : ∀ D ys H', Ex H H' → H' D = some (.lst ys) → SpotsX H' ys (ts.map fun t => t.1) → Q (.ref D) H')
    (step : ∀ (C : V → Hp → Prop) q a b H', SqT K H' q [a, b] → C a H' → ColB g te vs σ (.ref q) H' C) :
    ∃ a, V.ref p = V.ref a ∧ (∃ xs, SqL K H a xs) ∧ LcR (Itl K a) g tYes te vs Q σ H := by
  have ul := ht.len
  refine lcC hp (by omega) (fun j v H' => ∃ t, ts[j]? = some t ∧ SpotX H' v t.1) (fun j v H1 H2 im ⟨t, h1, h2⟩ => ⟨t, h1, spot_im h2 im⟩) ?_ ?_
  · intro D ys H' e f l h
    refine fin D ys H' e f ⟨by rw [l, ul, List.length_map], fun i v z a b => ?_⟩
    obtain ⟨t, h1, h2⟩ := h i v a
    rw [List.getElem?_map, h1] at b
    cases b
    exact h2
  · intro C i x H' hx e hc
    obtain ⟨t, ht'⟩ : ∃ t, ts[i]? = some t := ⟨_, List.getElem?_eq_getElem (by have := (List.getElem?_eq_some_iff.mp hx).1; omega)⟩
    obtain ⟨q, a, b, rfl, hq, ha, _⟩ := ht.at_ i x t hx ht'
    exact step C q a b H' (Ex.st hq e) (hc a H' (exR _) ⟨t, ht', spot_im ha e.im⟩)
theorem tabW_get : ∀ {zs : List Spot} {vs : List V} {i : Nat} {k : List Key} {w : V}, (tabW zs vs)[i]? = some (k, w) → ∃ z, zs[i]? = some z ∧ k = keyS z
  | [], _, _, _, _, h => by simp [tabW] at h
  | _ :: _, [], _, _, _, h => by simp [tabW] at h
  | z :: zs, v :: vs, 0, k, w, h => by
    cases h
    exact ⟨z, rfl, rfl⟩
  | z :: zs, v :: vs, i + 1, k, w, h => tabW_get (zs := zs) (vs := vs) (by simpa [tabW] using h)
theorem term_of {K : PySem.W.Frag} {H : Hp} {us : List V} {ts : List Term} {i : Nat} {x : V} (h : TermsAt K H us ts) (hx : us[i]? = some x) : ∃ t, ts[i]? = some t ∧ t ∈ ts ∧ TermAt K H x t := by
  obtain ⟨t, ht⟩ : ∃ t, ts[i]? = some t := ⟨_, List.getElem?_eq_getElem (by have := (List.getElem?_eq_some_iff.mp hx).1; have := h.len; omega)⟩
  exact ⟨t, ht, List.mem_of_getElem? ht, h.at_ i x t hx ht⟩
theorem good_sp {ts : List Term} (G : GoodT ts) : ∀ z ∈ ts.map (fun t => t.1), SpOk z := fun z m => by
  obtain ⟨t, mt, rfl⟩ := List.mem_map.mp m
  exact (G.ok t mt).ok
theorem s_inW {K : PySem.W.Frag} {C : Addr} {H : Hp} {Q : VK} {v x : V} {ts : List Term} {o : Option Rat} {neg : Bool} (h : WT K C H v ts) (nd1 : (ts.map fun t => t.1).Nodup) (a : AskT K H x ts o) (k : Q (.bl (if neg then !o.isSome else o.isSome)) H) : rInO C (spContB K C) neg x v H Q := by
  obtain ⟨wa, dx, d, vs, rfl, ha, _⟩ := id h
  refine ⟨wa, dx, _, rfl, ha, _, x, ts, o, rfl, h, nd1, a, _, rfl, ?_⟩
  cases neg
  · rw [Bool.false_xor]; exact k
  · rw [Bool.true_xor]; exact k
/-- an own == -/
theorem s_eqW {P : Program} {K : PySem.W.Frag} {mg : Str → Option Value} {cE cS cX cN cP cW cG cZ : Addr} {H : Hp} {Q : VK} {E : XK} {v u : V} {ts us : List Term} (tyW : ∀ (H : Hp) (a dx : Addr) (fs : List (Str × V)), H a = some (.ins cW dx fs) → TyX K H (.ref a) (.ref cW)) (nfW : PySem.W.notFirst K cW (.ref cW) = true)
    (h1 : WT K cW H v ts) (h2 : WT K cW H u us) (G : GoodT ts) (G2 : GoodT us) (k : ∀ H', Ex H H' → Q (.bl (sameT ts us)) H') :
    ∃ a dx fs t, v = .ref a ∧ H a = some (.ins cW dx fs) ∧ TyX K H u t ∧ PySem.W.notFirst K cW t = true ∧ spEqB K cW [v, u] H Q E := by
  obtain ⟨a, dx, d, vs, e1, i1, _⟩ := id h1
  obtain ⟨a2, dx2, d2, vs2, e2, i2, _⟩ := id h2
  exact ⟨a, dx, _, .ref cW, e1, i1, by rw [e2]; exact tyW H a2 dx2 _ i2, nfW, v, u, ts, rfl, h1, G, .inl ⟨us, h2, G2, k⟩⟩
theorem s_eqO {K : PySem.W.Frag} {cW : Addr} {H : Hp} {Q : VK} {E : XK} {v u : V} {t : Value} {ts : List Term} (ty : TyX K H u t) (nf : PySem.W.notFirst K cW t = true) (h1 : WT K cW H v ts) (G : GoodT ts) (o : OtherV K H u) (k : Q (.bl false) H) :
    ∃ a dx fs t, v = .ref a ∧ H a = some (.ins cW dx fs) ∧ TyX K H u t ∧ PySem.W.notFirst K cW t = true ∧ spEqB K cW [v, u] H Q E := by
  obtain ⟨a, dx, d, vs, e1, i1, _⟩ := id h1
  exact ⟨a, dx, _, t, e1, i1, ty, nf, v, u, ts, rfl, h1, G, .inr ⟨o, k⟩⟩
theorem s_catL {K : PySem.W.Frag} {H : Hp} {Q : VK} {a b : Addr} {xs ys : List V} (ha : H a = some (.lst xs)) (hb : H b = some (.lst ys)) (c : xs.length + ys.length ≤ sizeLine) (h : ∀ q H', H q = none → Ex H H' → H' q = some (.lst (xs ++ ys)) → Q (.ref q) H') : uAdd K (.ref a) (.ref b) H Q := .inl ⟨a, b, xs, ys, rfl, rfl, ha, hb, c, fun q hq => h q _ hq (exN hq) upd_same⟩
theorem cutV_to (xs : List V) (a : Nat) (h : a ≤ xs.length) : cutV xs none (some (a : Int)) = xs.take a := by
  rw [cutV_none, HT.sIx_nat, Nat.min_eq_left h]
theorem terms_drop {K : PySem.W.Frag} {H : Hp} {us : List V} {ts : List Term} (h : TermsAt K H us ts) (n : Nat) : TermsAt K H (us.drop n) (ts.drop n) := ⟨by rw [List.length_drop, List.length_drop, h.len], fun i v t a b => by
  rw [List.getElem?_drop] at a b
  exact h.at_ _ v t a b⟩
theorem terms_one {K : PySem.W.Frag} {H : Hp} {v : V} {t : Term} (h : TermAt K H v t) : TermsAt K H [v] [t] := ⟨rfl, fun i w u a b => by
  cases i with
  | zero => cases a; cases b; exact h
  | succ i => cases a⟩
/-! ### alike and unlike worlds -/
theorem sameT_of {ts us : List Term} (nd : (us.map fun t => t.1).Nodup) (l : ts.length = us.length) (h : ∀ t ∈ ts, t ∈ us) : sameT ts us = true := by
  unfold sameT
  rw [decide_eq_true l, Bool.true_and, List.all_eq_true]
  exact fun t m => decide_eq_true (lookT_at nd (h t m))
theorem sameT_len {ts us : List Term} (l : ts.length ≠ us.length) : sameT ts us = false := by
  unfold sameT
  rw [decide_eq_false l, Bool.false_and]
theorem sameT_ne {ts us : List Term} {t : Term} (m : t ∈ ts) (h : lookT us t.1 ≠ some t.2) : sameT ts us = false := by
  unfold sameT
  rw [Bool.and_eq_false_iff]
  refine .inr ?_
  rw [List.all_eq_false]
  exact ⟨t, m, by simpa using h⟩
theorem good_perm {ts us : List Term} (G : GoodT ts) (h : us.Perm ts) (g : us[0]? = some (gr, 0)) : GoodT us := ⟨(h.map _).nodup_iff.mpr G.nd, g, fun t m => G.ok t (h.mem_iff.mp m), fun t m => G.sz t (h.mem_iff.mp m), by rw [h.length_eq]; exact G.len⟩
theorem sub_nd {ts us : List Term} (h : us.Sublist ts) (nd : (ts.map fun t => t.1).Nodup) : (us.map fun t => t.1).Nodup := nd.sublist (h.map _)
theorem good_sub {ts us : List Term} (G : GoodT ts) (h : us.Sublist ts) (g : us[0]? = some (gr, 0)) : GoodT us := ⟨sub_nd h G.nd, g, fun t m => G.ok t (h.subset m), fun t m => G.sz t (h.subset m), Nat.le_trans h.length_le G.len⟩
theorem good_more {ts : List Term} {z : Spot} {q : Rat} (G : GoodT ts) (n : z ∉ ts.map fun t => t.1) (B : SpB z) (sq : Sz (10 ^ 40) q) (l : ts.length ≤ 30) : GoodT (ts ++ [(z, q)]) := by
  have g := G.g
  have g0 : 0 < ts.length := (List.getElem?_eq_some_iff.mp g).1
  refine ⟨?_, by rw [List.getElem?_append_left g0]; exact g, fun t m => ?_, fun t m => ?_, by rw [List.length_append]; show _ + 1 ≤ 40; omega⟩
  · rw [List.map_append]
    exact List.nodup_append.mpr ⟨G.nd, by simp, fun a ha b hb => by rw [show b = z by simpa using hb]; exact fun e => n (e ▸ ha)⟩
  · rcases List.mem_append.mp m with m | m
    · exact G.ok t m
    · rw [List.mem_singleton.mp m]; exact B
  · rcases List.mem_append.mp m with m | m
    · exact G.sz t m
    · rw [List.mem_singleton.mp m]; exact sq
/-- one value moved -/
def movT (ts : List Term) (n : Nat) (r : Rat) : List Term := ts.take n ++ [((ts.getD n (gr, 0)).1, r)] ++ ts.drop (n + 1)
theorem mov_split {ts : List Term} {n : Nat} {t : Term} (h : ts[n]? = some t) : ts = ts.take n ++ [t] ++ ts.drop (n + 1) := by
  obtain ⟨h1, h2⟩ := List.getElem?_eq_some_iff.mp h
  rw [List.append_assoc]
  show ts = ts.take n ++ t :: ts.drop (n + 1)
  rw [← h2, ← List.drop_eq_getElem_cons h1, List.take_append_drop]
theorem mov_fst {ts : List Term} {n : Nat} {t : Term} {r : Rat} (h : ts[n]? = some t) : (ts.take n ++ [(t.1, r)] ++ ts.drop (n + 1)).map (fun t => t.1) = ts.map fun t => t.1 := by
  conv => rhs; rw [mov_split h]
  simp only [List.map_append, List.map_cons, List.map_nil]
theorem good_mov {ts : List Term} {n : Nat} {t : Term} {r : Rat} (G : GoodT ts) (h : ts[n]? = some t) (n1 : 1 ≤ n) (sr : Sz (10 ^ 40) r) : GoodT (ts.take n ++ [(t.1, r)] ++ ts.drop (n + 1)) := by
  have il := (List.getElem?_eq_some_iff.mp h).1
  have mem : ∀ u ∈ ts.take n ++ [(t.1, r)] ++ ts.drop (n + 1), u ∈ ts ∨ u = (t.1, r) := fun u m => by
    rcases List.mem_append.mp m with m | m
    · rcases List.mem_append.mp m with m | m
      · exact .inl (List.mem_of_mem_take m)
      · exact .inr (List.mem_singleton.mp m)
    · exact .inl (List.mem_of_mem_drop m)
  refine ⟨by rw [mov_fst h]; exact G.nd, ?_, fun u m => ?_, fun u m => ?_, ?_⟩
  · rw [List.append_assoc, List.getElem?_append_left (by rw [List.length_take]; omega), List.getElem?_take, if_pos (by omega)]
    exact G.g
  · rcases mem u m with m | rfl
    · exact G.ok u m
    · exact G.ok t (List.mem_of_getElem? h)
  · rcases mem u m with m | rfl
    · exact G.sz u m
    · exact sr
  · have := congrArg List.length (mov_fst (r := r) h)
    rw [List.length_map, List.length_map] at this
    rw [this]
    exact G.len
theorem mov_ne {ts : List Term} {n : Nat} {t : Term} {r : Rat} (G : GoodT ts) (h : ts[n]? = some t) (n1 : 1 ≤ n) (sr : Sz (10 ^ 40) r) (c : r ≠ t.2) : sameT ts (ts.take n ++ [(t.1, r)] ++ ts.drop (n + 1)) = false ∧ sameT (ts.take n ++ [(t.1, r)] ++ ts.drop (n + 1)) ts = false := by
  have m2 : (t.1, r) ∈ ts.take n ++ [(t.1, r)] ++ ts.drop (n + 1) := by simp
  have G2 := good_mov G h n1 sr
  refine ⟨sameT_ne (List.mem_of_getElem? h) ?_, sameT_ne m2 ?_⟩
  · rw [lookT_at G2.nd m2]
    exact fun e => c (Option.some.inj e)
  · show lookT ts t.1 ≠ some r
    rw [lookT_at G.nd (List.mem_of_getElem? h)]
    exact fun e => c (Option.some.inj e).symm
theorem good_del {ts : List Term} {n : Nat} {t : Term} (G : GoodT ts) (h : ts[n]? = some t) (n1 : 1 ≤ n) : GoodT (ts.take n ++ ts.drop (n + 1)) ∧ (ts.take n ++ ts.drop (n + 1)).length ≠ ts.length := by
  have il := (List.getElem?_eq_some_iff.mp h).1
  have e := mov_split h
  refine ⟨good_sub G ?_ ?_, ?_⟩
  · conv => rhs; rw [e]
    rw [List.append_assoc]
    exact List.Sublist.append (List.Sublist.refl _) (List.sublist_append_right _ _)
  · rw [List.getElem?_append_left (by rw [List.length_take]; omega), List.getElem?_take, if_pos (by omega)]
    exact G.g
  · rw [List.length_append, List.length_take, List.length_drop]
    omega
theorem gr_first {ts ys : List Term} (G : GoodT ts) : (ts.take 1 ++ ys)[0]? = some (gr, 0) := by
  have g0 : 0 < ts.length := (List.getElem?_eq_some_iff.mp G.g).1
  rw [List.getElem?_append_left (by rw [List.length_take]; omega), List.getElem?_take, if_pos (by omega)]
  exact G.g
/-- a row of pairs that makes another world -/
def OthR (K : PySem.W.Frag) (H : Hp) (ts : List Term) (x : V) : Prop := ∃ p us ys, x = .ref p ∧ H p = some (.lst us) ∧ TermsAt K H us ys ∧ GoodT ys ∧ sameT ts ys = false ∧ sameT ys ts = false
theorem oth_mv {K : PySem.W.Frag} {H H' : Hp} {ts : List Term} {x : V} {q : Addr} (h : OthR K H ts x) (n : x ≠ .ref q) (i : Im H H') (m : ∀ a o, a ≠ q → (∃ xs, o = HO.lst xs) → H a = some o → H' a = some o) : OthR K H' ts x := by
  obtain ⟨p, us, ys, rfl, h1, h2, h3⟩ := h
  exact ⟨p, us, ys, rfl, m p _ (fun z => n (by rw [z])) ⟨_, rfl⟩ h1, terms_im h2 i, h3⟩
theorem s_mkB {K : PySem.W.Frag} {H : Hp} {C cX p : Addr} {us : List V} {ts : List Term} {R : Addr → Hp → Prop} {E : XK} (hp : SqA K H p us) (ht : TermsAt K H us ts) (G : GoodT ts)
    (k : ∀ a H2, Ex H H2 → WT K C H2 (.ref a) ts → R a H2) : ∀ x dx, H x = none → H dx = none → dx ≠ x → spInitB K C cX [.ref x, .ref p] (upd (upd H dx (.own x)) x (.ins C dx [])) (fun v H2 => v = .non ∧ R x H2) E := by
  intro x dx nx nd ne
  have e := ex_made (C := C) nx nd ne
  exact ⟨x, dx, p, us, ts, rfl, upd_same, hp.kx e.kx, .inl ⟨terms_im ht e.im, G, fun H' m hc => ⟨rfl, k x H' (fun a o h => m a o (fun z => by rw [z, nx] at h; cases h) (e a o h)) hc⟩⟩⟩
theorem s_mkBad {K : PySem.W.Frag} {H : Hp} {C cX p : Addr} {us : List V} {ts : List Term} {R : V → Addr → Hp → Prop} {E : XK} (hp : SqA K H p us) (hb : BadR K H us ts) (ke : BadW cX (ts.length : Nat) H E) :
    ∀ x dx, H x = none → H dx = none → dx ≠ x → spInitB K C cX [.ref x, .ref p] (upd (upd H dx (.own x)) x (.ins C dx [])) (fun v H2 => R v x H2) E := by
  intro x dx nx nd ne
  have e := ex_made (C := C) nx nd ne
  exact ⟨x, dx, p, us, ts, rfl, upd_same, hp.kx e.kx, .inr ⟨badr_ex hb e, fun e' H' m f => ke e' H' (fun a o h => m a o (fun z => by rw [z, nx] at h; cases h) (e a o h)) f⟩⟩
theorem kb_none {b q : Addr} {H H' : Hp} (h : Kb b H H') (n : H' q = none) : H q = none := by
  cases y : H q with
  | none => rfl
  | some o =>
    by_cases c : q = b
    · obtain ⟨kvs, hk⟩ := bag_dk h.b1
      rw [c, hk] at n
      cases n
    · rw [h.keep q o c y] at n
      cases n
theorem oth_kb {K : PySem.W.Frag} {b : Addr} {H H' : Hp} {ts : List Term} {x : V} (h : OthR K H ts x) (k : Kb b H H') : OthR K H' ts x := by
  obtain ⟨p, us, ys, rfl, h1, h2, h3⟩ := h
  exact ⟨p, us, ys, rfl, k.at h1 (fun _ z => by cases z), terms_im h2 k.im, h3⟩
theorem oth_ex {K : PySem.W.Frag} {H H' : Hp} {ts : List Term} {x : V} (h : OthR K H ts x) (e : Ex H H') : OthR K H' ts x := by
  obtain ⟨p, us, ys, rfl, h1, h2, h3⟩ := h
  exact ⟨p, us, ys, rfl, e _ _ h1, terms_im h2 e.im, h3⟩
/-- such rows in the list at q -/
def OthL (K : PySem.W.Frag) (H : Hp) (ts : List Term) (q : Addr) (n : Nat) : Prop := ∃ xs, H q = some (.lst xs) ∧ xs.length ≤ n ∧ ∀ x ∈ xs, x ≠ .ref q ∧ OthR K H ts x
theorem othl_kb {K : PySem.W.Frag} {b q : Addr} {n : Nat} {H H' : Hp} {ts : List Term} (h : OthL K H ts q n) (k : Kb b H H') : OthL K H' ts q n := let ⟨xs, h1, h2, h3⟩ := h; ⟨xs, k.at h1 (fun _ z => by cases z), h2, fun x m => ⟨(h3 x m).1, oth_kb (h3 x m).2 k⟩⟩
theorem othl_ex {K : PySem.W.Frag} {q : Addr} {n : Nat} {H H' : Hp} {ts : List Term} (h : OthL K H ts q n) (e : Ex H H') : OthL K H' ts q n := let ⟨xs, h1, h2, h3⟩ := h; ⟨xs, e _ _ h1, h2, fun x m => ⟨(h3 x m).1, oth_ex (h3 x m).2 e⟩⟩
theorem othl_put {K : PySem.W.Frag} {q p : Addr} {n : Nat} {H H' : Hp} {ts : List Term} {xs : List V} (h1 : H q = some (.lst xs)) (h2 : xs.length ≤ n) (h3 : ∀ x ∈ xs, x ≠ .ref q ∧ OthR K H ts x) (np : p ≠ q) (ho : OthR K H ts (.ref p)) (m : ∀ a o, a ≠ q → H a = some o → H' a = some o) (i : Im H H') (f : H' q = some (.lst (xs ++ [.ref p]))) : OthL K H' ts q (n + 1) := by
  have mv : ∀ {x : V}, x ≠ .ref q → OthR K H ts x → OthR K H' ts x := fun {x} nx hx => oth_mv hx nx i fun a o na _ h => m a o na h
  refine ⟨_, f, by rw [List.length_append]; show _ + 1 ≤ _; omega, fun x mx => ?_⟩
  rcases List.mem_append.mp mx with mx | mx
  · exact ⟨(h3 x mx).1, mv (h3 x mx).1 (h3 x mx).2⟩
  · rw [List.mem_singleton.mp mx]
    have n2 : (V.ref p) ≠ .ref q := fun z => np (by cases z; rfl)
    exact ⟨n2, mv n2 ho⟩
theorem s_repL {K : PySem.W.Frag} {H : Hp} {Q : VK} {l : Addr} {k : Int} {xs : List V} (h : H l = some (.lst xs)) (k0 : 0 ≤ k) (k1 : k ≤ 1000) (xl : xs.length ≤ 1000) (q : ∀ p H', H p = none → Ex H H' → H' p = some (.lst (List.replicate k.toNat xs).flatten) → Q (.ref p) H') : uMul K (.ref l) (.int k) H Q := by
  refine .inl ⟨l, k, xs, rfl, rfl, h, by omega, by omega, ?_, fun p hp => q p _ hp (exN hp) upd_same⟩
  have : xs.length * k.toNat ≤ 1000 * 1000 := Nat.mul_le_mul xl (by omega)
  show _ ≤ 16777216
  omega
/-! ### data that stands whatever becomes of old lists and dicts -/
theorem mut_ex {S : List Addr} {H H' : Hp} (h : MutS H S) (e : Ex H H') : MutS H' S := fun a m => let ⟨o, h1, h2⟩ := h a m; ⟨o, e _ _ h1, h2⟩
theorem mut_kb {S : List Addr} {H H' : Hp} {b : Addr} (h : MutS H S) (k : Kb b H H') : MutS H' S := fun a m => by
  obtain ⟨o, h1, h2⟩ := h a m
  by_cases c : a = b
  · obtain ⟨kvs, hk⟩ := bag_dk k.b1
    exact ⟨.dK kvs, by rw [c]; exact hk, fun z => z⟩
  · exact ⟨o, k.keep a o c h1, h2⟩
theorem mut_fresh {S : List Addr} {H : Hp} {p : Addr} (h : MutS H S) (n : H p = none) : p ∉ S := fun m => by
  obtain ⟨o, h1, _⟩ := h p m
  rw [h1] at n
  cases n
theorem mut_im {S : List Addr} {H H2 : Hp} (h : MutS H S) (m : ∀ a o, a ∉ S → H a = some o → H2 a = some o) : Im H H2 := fun a o i q => by
  by_cases c : a ∈ S
  · obtain ⟨o', h1, h2⟩ := h a c
    rw [h1] at q
    cases q
    exact absurd i h2
  · exact m a o c q
theorem rdp_im {K : PySem.W.Frag} {S : List Addr} {H : Hp} {v : V} {d : PyData} (hS : MutS H S) (h : ∀ H2, Im H H2 → Dp K H2 v d) : RDp S K H v d := fun H2 m => h H2 (mut_im hS m)
section
variable (K : PySem.W.Frag) (σ : L2.St) (H0 : Hp)
def DME (te : TE) (d : PyData) : Prop := ∀ (H : Hp) (Q : VK), Ex H0 H → (∀ v H', Ex H H' → (∀ S, MutS H0 S → RDp S K H' v d) → Q v H') → te σ H Q
def DMA (ts : TA) (ds : List PyData) : Prop := ∀ (H : Hp) (Q : List V → Hp → Prop), Ex H0 H → (∀ vs H', Ex H H' → (∀ S, MutS H0 S → RDpA S K H' vs ds) → Q vs H') → ts σ H Q
end
section
variable {K : PySem.W.Frag} {σ : L2.St} {H0 : Hp}
theorem mut_nil : MutS H0 [] := fun a m => by cases m
theorem dm_int {i : Int} : DME K σ H0 (tC (.int i)) (.int i) := fun H Q _ h => h _ _ (exR H) fun _ _ => rdp_i
theorem dm_str {s : Str} : DME K σ H0 (tC (.str s)) (.str s) := fun H Q _ h => h _ _ (exR H) fun _ _ => rdp_s
theorem dm_bl {c : Bool} : DME K σ H0 (tC (.bl c)) (.bool c) := fun H Q _ h => h _ _ (exR H) fun _ _ _ _ => .bl c
theorem dm_non : DME K σ H0 (tC .non) .none := fun H Q _ h => h _ _ (exR H) fun _ _ _ _ => .non
theorem dm_neg {i : Int} : DME K σ H0 (tUn (rU fun i => V.int (-i)) (tC (.int i))) (.int (-i)) := fun H Q _ h => ⟨i, rfl, h _ _ (exR H) fun _ _ => rdp_i⟩
theorem dm_i {te : TE} {i : Int} (h : ∀ (H : Hp) (Q : VK), Ex H0 H → Q (.int i) H → te σ H Q) : DME K σ H0 te (.int i) := fun H Q e q => h H Q e (q _ _ (exR H) fun _ _ => rdp_i)
theorem dm_s {te : TE} {s : Str} (h : ∀ (H : Hp) (Q : VK), Ex H0 H → Q (.str s) H → te σ H Q) : DME K σ H0 te (.str s) := fun H Q e q => h H Q e (q _ _ (exR H) fun _ _ => rdp_s)
theorem dm_d {te : TE} {d : PyData} (h : ∀ (H : Hp) (Q : VK), Ex H0 H → (∀ v H', Ex H H' → (∀ H2, Im H' H2 → Dp K H2 v d) → Q v H') → te σ H Q) : DME K σ H0 te d := fun H Q e q => h H Q e fun v H' e' hd => q v H' e' fun S hS => rdp_im (mut_ex hS (e.tr e')) hd
theorem dm_nil : DMA K σ H0 tNil [] := fun H Q _ h => h _ _ (exR H) fun _ _ => rdpa_nil
theorem dm_cons {te : TE} {ts : TA} {d : PyData} {ds : List PyData} (h1 : DME K σ H0 te d) (h2 : DMA K σ H0 ts ds) : DMA K σ H0 (tCons te ts) (d :: ds) := fun H Q e h =>
  h1 H _ e fun v H1 e1 r1 => h2 H1 _ (e.tr e1) fun vs H2 e2 r2 => h _ _ (e1.tr e2) fun S hS => rdpa_cons ((r1 S hS).mv fun a o _ q => e2 _ _ q) (r2 S hS)
theorem dm_tup {ts : TA} {ds : List PyData} (h : DMA K σ H0 ts ds) (l : ds.length ≤ 400) : DME K σ H0 (tTup ts) (.tuple ds) := fun H Q e q => h H _ e fun vs H1 e1 r => ⟨by rw [rdpa_len (r [] mut_nil)]; exact Nat.le_trans l (Nat.le_of_ble_eq_true rfl), fun p n => q _ _ (e1.tr (exN n)) fun S hS => rdp_t upd_same (mut_fresh (mut_ex hS (e.tr e1)) n) ((r S hS).mv fun a o _ z => exN n _ _ z)⟩
theorem dm_lst {ts : TA} {ds : List PyData} (h : DMA K σ H0 ts ds) (l : ds.length ≤ 400) : DME K σ H0 (tLst ts) (.list ds) := fun H Q e q => h H _ e fun vs H1 e1 r => ⟨by rw [rdpa_len (r [] mut_nil)]; exact Nat.le_trans l (Nat.le_of_ble_eq_true rfl), fun p n => q _ _ (e1.tr (exN n)) fun S hS => rdp_l upd_same (mut_fresh (mut_ex hS (e.tr e1)) n) ((r S hS).mv fun a o _ z => exN n _ _ z)⟩
theorem dm_v {i : Nat} {v : V} {d : PyData} (h : σ[i]? = some (some v)) (hd : ∀ H2, Im H0 H2 → Dp K H2 v d) : DME K σ H0 (tVar i) d := fun H Q e q => ⟨v, h, q v H (exR H) fun S hS => rdp_im (mut_ex hS e) fun H2 m => hd H2 (e.im.tr m)⟩
theorem dm_ix {i j : Nat} {p : Addr} {xs : List V} {v : V} {d : PyData} (h : σ[i]? = some (some (.ref p))) (hs : SqT K H0 p xs) (hv : xs[j]? = some v) (hd : ∀ {H : Hp} {S : List Addr}, RDp S K H v d) : DME K σ H0 (tOp (rIx K) (tVar i) (tC (.int (j : Nat)))) d := fun H Q e q => ⟨_, h, s_ixT (Ex.st hs e) (atI_nat hv) (q v H (exR H) fun S _ => hd)⟩
theorem s_dml {ts : TA} {ds : List PyData} {Q : VK} (h : DMA K σ H0 ts ds) (l : ds.length ≤ 400) (k : ∀ p vs H', H0 p = none → Ex H0 H' → H' p = some (.lst vs) → vs.length = ds.length → (∀ S, MutS H0 S → RDpA S K H' vs ds) → Q (.ref p) H') : tLst ts σ H0 Q := h H0 _ (exR H0) fun vs H1 e1 r => ⟨by rw [rdpa_len (r [] mut_nil)]; exact Nat.le_trans l (Nat.le_of_ble_eq_true rfl), fun p n => k p vs _ (by
  cases q : H0 p with
  | none => rfl
  | some o => rw [e1 _ _ q] at n; cases n) (e1.tr (exN n)) upd_same (rdpa_len (r [] mut_nil)) fun S hS => (r S hS).mv fun a o _ z => exN n _ _ z⟩
end
theorem ex_none26 {q : Addr} {H H' : Hp} (e : Ex H H') (n : H' q = none) : H q = none := by
  cases y : H q with
  | none => rfl
  | some o => rw [e _ _ y] at n; cases n
theorem mix_hi {a b : Rat} : mixR 1 a b = if a < b then b else a := by
  unfold mixR cmpQ
  by_cases c : a < b
  · have c' : ¬ b < a := Rat.not_lt.mpr (Rat.le_of_lt c)
    simp [c, c']
  · simp only [c, if_false]
    by_cases d : b < a <;> simp [d]
theorem mix_lo {a b : Rat} : mixR (-1) a b = if a < b then a else b := by
  unfold mixR cmpQ
  by_cases c : a < b
  · have c' : ¬ b < a := Rat.not_lt.mpr (Rat.le_of_lt c)
    simp [c, c']
  · simp only [c, if_false]
    by_cases d : b < a
    · simp [d]
    · have e : a = b := Rat.le_antisymm (Rat.not_lt.mp d) (Rat.not_lt.mp c)
      simp [d, e]

section
variable {P : Program} {K : PySem.W.Frag} {mg : Str → Option Value} {cE cS cX cN cP cW cG cZ : Addr} {H : Hp} {a dx : Addr} {x y : V} {R : V → Prop}
theorem s_fTb (T : Tp P K mg cE cS cX cN cP cW cG cZ) (h : H a = some (.ins cW dx [("table", x)])) (q : R x) : ∃ a' C dx fs v, V.ref a = .ref a' ∧ H a' = some (.ins C dx fs) ∧ Cls K C ∧ NoAttr K C "table" ∧ fs.lookup ("table" : Str) = some v ∧ R v := ⟨a, cW, dx, _, x, rfl, h, T.clW, T.nTb, by simp [List.lookup], q⟩
theorem s_isWorld {Q : VK} {fs : List (Str × V)} (T : Tp P K mg cE cS cX cN cP cW cG cZ) (h : H a = some (.ins cW dx fs)) (q : Q (.bl true) H) : rIsi K [.ref a, .ref cW] H Q := ⟨_, _, _, _, true, rfl, .own _, T.tyW H a dx fs h, T.kWW, q⟩
end
end Lw

set_option Elab.async false
set_option pp.maxSteps 500
set_option linter.all false
set_option maxRecDepth 100000
set_option maxHeartbeats 4000000
namespace Hd
open PySem PySem.Spec PyProof.Rows L2 He
def nm0 : List PySem.Str := ["EllError", "Nought", "BadWorld", "BadSpot", "NoSpot", "ZERO", "is_integer", "ratio", "is_ratio", "minus", "compare", "GROUND", "is_spot", "table_of_pairs", "World", "mixed_worlds", "higher", "lower", "_law_bag_of", "_law_pick", "_law_choice", "_law_some", "_law_shuffled", "_law_integer", "_law_gcd", "_law_ratio", "_law_is_ratio", "_law_plus", "_law_minus", "_law_less"]
def nm1 : List PySem.Str := ["_law_ground", "_law_word_drawn", "_law_whole", "_law_some_spots", "_law_stranger", "_law_spot_like", "_law_drawn_ratio", "_law_told_well", "_law_gaps_told_well", "_law_lacks", "_law_lookalikes", "_law_strangers_refused", "_law_equal_as_due", "_law_mixed_as_due", "_law_wrong_pair", "_law_wrong_rows_refused", "_law_spots_known"]
def names : List PySem.Str := nm0 ++ nm1
abbrev L : PySem.W.OpenLaw := PySem.Challenge.rw_ellwarden_k26_worlds
abbrev R : PySem.W.OpenRow := PySem.W.OpenLaw.row L
def fb : List (PySem.W.Frag → Bool) := [Hk.fa (.free "isinstance"),
  Hk.fa (.free "len"),
  Hk.fa (.free "abs"),
  Hk.fa (.free "repr"),
  Hk.fa (.free "max"),
  Hk.fa (.free "min"),
  Hk.fa (.free "sum"),
  Hk.fa (.free "all"),
  Hk.fa (.free "any"),
  Hk.fa (.free "sorted"),
  Hk.fa (.free "int"),
  Hk.fa (.free "str"),
  Hk.fa (.free "list"),
  Hk.fa (.free "tuple"),
  Hk.fa (.free "bool"),
  Hk.fa (.free "dict"),
  Hk.fa (.free "range"),
  Hk.fa (.free "enumerate"),
  Hk.fa (.free "zip"),
  Hk.fa (.free "iter"),
  Hk.fa (.free "reversed"),
  Hk.fa (.free "super"),
  Hk.fa (.free "ValueError"),
  Hk.xB1 "NoSpot" ["spot"],
  Hk.xB2 (PySem.Challenge.pw_ellwarden_k26_worlds.main.file) "NoSpot",
  Hk.excB "NoSpot",
  Hk.xB1 "BadWorld" ["place"],
  Hk.xB2 (PySem.Challenge.pw_ellwarden_k26_worlds.main.file) "BadWorld",
  Hk.excB "BadWorld",
  Hk.xB1 "Nought" ["number"],
  Hk.xB2 (PySem.Challenge.pw_ellwarden_k26_worlds.main.file) "Nought",
  Hk.excB "Nought",
  Hk.gloV "gcd" (.builtin "math.gcd"),
  Hk.fa (.glo "EllError"),
  Hk.fa (.glo "BadSpot"),
  Hk.fa (.glo "GROUND"),
  Hk.fa (.glo "ZERO"),
  Hk.tupB "GROUND" (Lw.vS Lw.gr),
  Hk.tupB "ZERO" [.int 0, .int 1],
  Hk.fa (.noat "NoSpot" "spot"),
  Hk.fa (.noat "BadWorld" "place"),
  Hk.fa (.noat "World" "table"),
  fun K => PySem.W.fnIn K (ma K (ga K "World") "__getitem__"),
  fun K => PySem.W.notFirst K (ga K "World") (.ref (ga K "World")),
  fun K => decide (PySem.W.kitOne K (.ref (ga K "World")) (.ref (ga K "World")) = some true),
  Hk.fa (.exm "NoSpot" "EllError" true),
  Hk.kitB' "NoSpot" (fun _ => .type "ValueError") true,
  Hk.kitB' "NoSpot" (fun K => .ref (ga K "NoSpot")) true,
  fun K => decide (PySem.W.kitAny K (.ref (ga K "NoSpot")) [.ref (ga K "BadWorld"), .ref (ga K "BadSpot")] = some false),
  Hk.fa (.exm "BadWorld" "EllError" true),
  Hk.kitB' "BadWorld" (fun _ => .type "ValueError") true,
  Hk.kitB' "BadWorld" (fun K => .ref (ga K "BadWorld")) true,
  fun K => decide (PySem.W.kitAny K (.ref (ga K "BadWorld")) [.ref (ga K "NoSpot"), .ref (ga K "BadSpot")] = some false),
  fun K => PySem.W.notFirst K (ga K "World") (.type "NoneType"),
  fun K => decide (PySem.W.kitOne K (.type "NoneType") (.ref (ga K "World")) = some false),
  fun K => PySem.W.notFirst K (ga K "World") (.type "int"),
  fun K => decide (PySem.W.kitOne K (.type "int") (.ref (ga K "World")) = some false),
  fun K => PySem.W.notFirst K (ga K "World") (.type "str"),
  fun K => decide (PySem.W.kitOne K (.type "str") (.ref (ga K "World")) = some false),
  fun K => PySem.W.notFirst K (ga K "World") (.type "tuple"),
  fun K => decide (PySem.W.kitOne K (.type "tuple") (.ref (ga K "World")) = some false),
  fun K => PySem.W.notFirst K (ga K "World") (.type "list"),
  fun K => decide (PySem.W.kitOne K (.type "list") (.ref (ga K "World")) = some false),
  Hk.fa (.glo "is_integer"),
  Hk.fa (.glo "ratio"),
  Hk.fa (.glo "is_ratio"),
  Hk.fa (.glo "minus"),
  Hk.fa (.glo "compare"),
  Hk.fa (.glo "is_spot"),
  Hk.fa (.glo "table_of_pairs"),
  Hk.fa (.glo "mixed_worlds"),
  Hk.fa (.glo "higher"),
  Hk.fa (.glo "lower"),
  Hk.fa (.glo "_law_bag_of"),
  Hk.fa (.glo "_law_pick"),
  Hk.fa (.glo "_law_choice"),
  Hk.fa (.glo "_law_some"),
  Hk.fa (.glo "_law_shuffled"),
  Hk.fa (.glo "_law_integer"),
  Hk.fa (.glo "_law_gcd"),
  Hk.fa (.glo "_law_ratio"),
  Hk.fa (.glo "_law_is_ratio"),
  Hk.fa (.glo "_law_plus"),
  Hk.fa (.glo "_law_minus"),
  Hk.fa (.glo "_law_less"),
  Hk.fa (.glo "_law_ground"),
  Hk.fa (.glo "_law_word_drawn"),
  Hk.fa (.glo "_law_whole"),
  Hk.fa (.glo "_law_some_spots"),
  Hk.fa (.glo "_law_stranger"),
  Hk.fa (.glo "_law_spot_like"),
  Hk.fa (.glo "_law_drawn_ratio"),
  Hk.fa (.glo "_law_told_well"),
  Hk.fa (.glo "_law_gaps_told_well"),
  Hk.fa (.glo "_law_lacks"),
  Hk.fa (.glo "_law_lookalikes"),
  Hk.fa (.glo "_law_strangers_refused"),
  Hk.fa (.glo "_law_equal_as_due"),
  Hk.fa (.glo "_law_mixed_as_due"),
  Hk.fa (.glo "_law_wrong_pair"),
  Hk.fa (.glo "_law_wrong_rows_refused"),
  Hk.fa (.glo "_law_spots_known"),
  Hk.fa (.glo "law"),
  Hk.fa (.glo "World"),
  Hk.fa (.cls "World"),
  Hk.insB "World",
  fun K => PySem.W.selfFirst K (ga K "World"),
  Hk.fa (.mkr "World"),
  Hk.fa (.meth "World" "__getitem__"),
  Hk.fa (.meth "World" "__iter__"),
  Hk.fa (.meth "World" "__len__"),
  Hk.fa (.meth "World" "__contains__"),
  Hk.fa (.meth "World" "__eq__"),
  Hk.fa (.meth "World" "gap"),
  Hk.fa (.meth "World" "keeps")]
def fn : List He5.DefA := [⟨fun K => ma K (ga K "World") "__init__", "__init__", "World.__init__", defArgs Lw.s_World_init, defBody Lw.s_World_init, defScope Lw.s_World_init, [], []⟩,
  ⟨fun K => ma K (ga K "World") "__getitem__", "__getitem__", "World.__getitem__", defArgs Lw.s_World_getitem, defBody Lw.s_World_getitem, defScope Lw.s_World_getitem, [], []⟩,
  ⟨fun K => ma K (ga K "World") "__iter__", "__iter__", "World.__iter__", defArgs Lw.s_World_iter, defBody Lw.s_World_iter, defScope Lw.s_World_iter, [], []⟩,
  ⟨fun K => ma K (ga K "World") "__len__", "__len__", "World.__len__", defArgs Lw.s_World_len, defBody Lw.s_World_len, defScope Lw.s_World_len, [], []⟩,
  ⟨fun K => ma K (ga K "World") "__contains__", "__contains__", "World.__contains__", defArgs Lw.s_World_contains, defBody Lw.s_World_contains, defScope Lw.s_World_contains, [], []⟩,
  ⟨fun K => ma K (ga K "World") "__eq__", "__eq__", "World.__eq__", defArgs Lw.s_World_eq, defBody Lw.s_World_eq, defScope Lw.s_World_eq, [], []⟩,
  ⟨fun K => ma K (ga K "World") "gap", "gap", "World.gap", defArgs Lw.s_World_gap, defBody Lw.s_World_gap, defScope Lw.s_World_gap, [], []⟩,
  ⟨fun K => ma K (ga K "World") "keeps", "keeps", "World.keeps", defArgs Lw.s_World_keeps, defBody Lw.s_World_keeps, defScope Lw.s_World_keeps, [], []⟩,
  ⟨fun K => ga K "is_integer", "is_integer", "is_integer", defArgs Lw.s_is_integer, defBody Lw.s_is_integer, defScope Lw.s_is_integer, [.non, .non], []⟩,
  ⟨fun K => ga K "ratio", "ratio", "ratio", defArgs Lw.s_ratio, defBody Lw.s_ratio, defScope Lw.s_ratio, [.int 1], []⟩,
  ⟨fun K => ga K "is_ratio", "is_ratio", "is_ratio", defArgs Lw.s_is_ratio, defBody Lw.s_is_ratio, defScope Lw.s_is_ratio, [], []⟩,
  ⟨fun K => ga K "minus", "minus", "minus", defArgs Lw.s_minus, defBody Lw.s_minus, defScope Lw.s_minus, [], []⟩,
  ⟨fun K => ga K "compare", "compare", "compare", defArgs Lw.s_compare, defBody Lw.s_compare, defScope Lw.s_compare, [], []⟩,
  ⟨fun K => ga K "is_spot", "is_spot", "is_spot", defArgs Lw.s_is_spot, defBody Lw.s_is_spot, defScope Lw.s_is_spot, [], []⟩,
  ⟨fun K => ga K "table_of_pairs", "table_of_pairs", "table_of_pairs", defArgs Lw.s_table_of_pairs, defBody Lw.s_table_of_pairs, defScope Lw.s_table_of_pairs, [], []⟩,
  ⟨fun K => ga K "mixed_worlds", "mixed_worlds", "mixed_worlds", defArgs Lw.s_mixed_worlds, defBody Lw.s_mixed_worlds, defScope Lw.s_mixed_worlds, [], []⟩,
  ⟨fun K => ga K "higher", "higher", "higher", defArgs Lw.s_higher, defBody Lw.s_higher, defScope Lw.s_higher, [], []⟩,
  ⟨fun K => ga K "lower", "lower", "lower", defArgs Lw.s_lower, defBody Lw.s_lower, defScope Lw.s_lower, [], []⟩,
  ⟨fun K => ga K "_law_bag_of", "_law_bag_of", "_law_bag_of", defArgs Lw.s_l_bag_of, defBody Lw.s_l_bag_of, defScope Lw.s_l_bag_of, [], []⟩,
  ⟨fun K => ga K "_law_pick", "_law_pick", "_law_pick", defArgs Lw.s_l_pick, defBody Lw.s_l_pick, defScope Lw.s_l_pick, [], []⟩,
  ⟨fun K => ga K "_law_choice", "_law_choice", "_law_choice", defArgs Lw.s_l_choice, defBody Lw.s_l_choice, defScope Lw.s_l_choice, [], []⟩,
  ⟨fun K => ga K "_law_some", "_law_some", "_law_some", defArgs Lw.s_l_some, defBody Lw.s_l_some, defScope Lw.s_l_some, [], []⟩,
  ⟨fun K => ga K "_law_shuffled", "_law_shuffled", "_law_shuffled", defArgs Lw.s_l_shuffled, defBody Lw.s_l_shuffled, defScope Lw.s_l_shuffled, [], []⟩,
  ⟨fun K => ga K "_law_integer", "_law_integer", "_law_integer", defArgs Lw.s_l_integer, defBody Lw.s_l_integer, defScope Lw.s_l_integer, [], []⟩,
  ⟨fun K => ga K "_law_gcd", "_law_gcd", "_law_gcd", defArgs Lw.s_l_gcd, defBody Lw.s_l_gcd, defScope Lw.s_l_gcd, [], []⟩,
  ⟨fun K => ga K "_law_ratio", "_law_ratio", "_law_ratio", defArgs Lw.s_l_ratio, defBody Lw.s_l_ratio, defScope Lw.s_l_ratio, [], []⟩,
  ⟨fun K => ga K "_law_is_ratio", "_law_is_ratio", "_law_is_ratio", defArgs Lw.s_l_is_ratio, defBody Lw.s_l_is_ratio, defScope Lw.s_l_is_ratio, [], []⟩,
  ⟨fun K => ga K "_law_plus", "_law_plus", "_law_plus", defArgs Lw.s_l_plus, defBody Lw.s_l_plus, defScope Lw.s_l_plus, [], []⟩,
  ⟨fun K => ga K "_law_minus", "_law_minus", "_law_minus", defArgs Lw.s_l_minus, defBody Lw.s_l_minus, defScope Lw.s_l_minus, [], []⟩,
  ⟨fun K => ga K "_law_less", "_law_less", "_law_less", defArgs Lw.s_l_less, defBody Lw.s_l_less, defScope Lw.s_l_less, [], []⟩,
  ⟨fun K => ga K "_law_ground", "_law_ground", "_law_ground", defArgs Lw.s_l_ground, defBody Lw.s_l_ground, defScope Lw.s_l_ground, [], []⟩,
  ⟨fun K => ga K "_law_word_drawn", "_law_word_drawn", "_law_word_drawn", defArgs Lw.s_l_word_drawn, defBody Lw.s_l_word_drawn, defScope Lw.s_l_word_drawn, [], []⟩,
  ⟨fun K => ga K "_law_whole", "_law_whole", "_law_whole", defArgs Lw.s_l_whole, defBody Lw.s_l_whole, defScope Lw.s_l_whole, [], []⟩,
  ⟨fun K => ga K "_law_some_spots", "_law_some_spots", "_law_some_spots", defArgs Lw.s_l_some_spots, defBody Lw.s_l_some_spots, defScope Lw.s_l_some_spots, [], []⟩,
  ⟨fun K => ga K "_law_stranger", "_law_stranger", "_law_stranger", defArgs Lw.s_l_stranger, defBody Lw.s_l_stranger, defScope Lw.s_l_stranger, [], []⟩,
  ⟨fun K => ga K "_law_spot_like", "_law_spot_like", "_law_spot_like", defArgs Lw.s_l_spot_like, defBody Lw.s_l_spot_like, defScope Lw.s_l_spot_like, [], []⟩,
  ⟨fun K => ga K "_law_drawn_ratio", "_law_drawn_ratio", "_law_drawn_ratio", defArgs Lw.s_l_drawn_ratio, defBody Lw.s_l_drawn_ratio, defScope Lw.s_l_drawn_ratio, [], []⟩,
  ⟨fun K => ga K "_law_told_well", "_law_told_well", "_law_told_well", defArgs Lw.s_l_told_well, defBody Lw.s_l_told_well, defScope Lw.s_l_told_well, [], []⟩,
  ⟨fun K => ga K "_law_gaps_told_well", "_law_gaps_told_well", "_law_gaps_told_well", defArgs Lw.s_l_gaps_told_well, defBody Lw.s_l_gaps_told_well, defScope Lw.s_l_gaps_told_well, [], []⟩,
  ⟨fun K => ga K "_law_lacks", "_law_lacks", "_law_lacks", defArgs Lw.s_l_lacks, defBody Lw.s_l_lacks, defScope Lw.s_l_lacks, [], []⟩,
  ⟨fun K => ga K "_law_lookalikes", "_law_lookalikes", "_law_lookalikes", defArgs Lw.s_l_lookalikes, defBody Lw.s_l_lookalikes, defScope Lw.s_l_lookalikes, [], []⟩,
  ⟨fun K => ga K "_law_strangers_refused", "_law_strangers_refused", "_law_strangers_refused", defArgs Lw.s_l_strangers_refused, defBody Lw.s_l_strangers_refused, defScope Lw.s_l_strangers_refused, [], []⟩,
  ⟨fun K => ga K "_law_equal_as_due", "_law_equal_as_due", "_law_equal_as_due", defArgs Lw.s_l_equal_as_due, defBody Lw.s_l_equal_as_due, defScope Lw.s_l_equal_as_due, [], []⟩,
  ⟨fun K => ga K "_law_mixed_as_due", "_law_mixed_as_due", "_law_mixed_as_due", defArgs Lw.s_l_mixed_as_due, defBody Lw.s_l_mixed_as_due, defScope Lw.s_l_mixed_as_due, [], []⟩,
  ⟨fun K => ga K "_law_wrong_pair", "_law_wrong_pair", "_law_wrong_pair", defArgs Lw.s_l_wrong_pair, defBody Lw.s_l_wrong_pair, defScope Lw.s_l_wrong_pair, [], []⟩,
  ⟨fun K => ga K "_law_wrong_rows_refused", "_law_wrong_rows_refused", "_law_wrong_rows_refused", defArgs Lw.s_l_wrong_rows_refused, defBody Lw.s_l_wrong_rows_refused, defScope Lw.s_l_wrong_rows_refused, [], []⟩,
  ⟨fun K => ga K "_law_spots_known", "_law_spots_known", "_law_spots_known", defArgs Lw.s_l_spots_known, defBody Lw.s_l_spots_known, defScope Lw.s_l_spots_known, [], []⟩,
  ⟨fun K => ga K "law", "law", "law", defArgs Lw.s_law, defBody Lw.s_law, defScope Lw.s_law, [], []⟩]
def xs : List Hk.XI := [⟨"NoSpot", defArgs Lw.s_NoSpot_init, defBody Lw.s_NoSpot_init, defScope Lw.s_NoSpot_init⟩,
  ⟨"BadWorld", defArgs Lw.s_BadWorld_init, defBody Lw.s_BadWorld_init, defScope Lw.s_BadWorld_init⟩,
  ⟨"Nought", defArgs Lw.s_Nought_init, defBody Lw.s_Nought_init, defScope Lw.s_Nought_init⟩]
abbrev V : Program := PySem.W.view R.prog [0, 52]
abbrev hk : PySem.W.Hook := Hk.hookR fb fn xs
theorem run1 (w : World) : Hk.Run1 R 6000 w := by
  unfold Hk.Run1
  kernel_rfl
theorem run2 (w : World) : Hk.Run2 R V 6000 names w := by
  unfold Hk.Run2
  kernel_rfl
theorem run3 (w : World) : Hk.Run3 R Hk.AlO (Hk.obsR fb fn xs) 6000 (Hk.valO fn xs) w := by
  unfold Hk.Run3
  kernel_rfl
theorem run (w : World) : HandSHeadRun.RunEqI R V hk (Hk.obsR fb fn xs) 6000 names w := Hk.runEq3 (run1 w) (run2 w) (run3 w)
end Hd

set_option Elab.async false
set_option pp.maxSteps 500
set_option linter.all false
set_option maxRecDepth 100000
set_option maxHeartbeats 4000000
namespace Lw
open PySem PySem.Spec L2 Uv
open PyProof.Rows hiding St
local macro_rules | `(tactic| walk_at "umul") => `(tactic| fail)
local macro_rules | `(tactic| walk_at "us1") => `(tactic| first
  | (with_reducible refine s_seq ?_) | (with_reducible refine s_asg ?_) | (with_reducible refine s_gn ?_) | (with_reducible refine s_ret ?_) | (with_reducible refine s_drop ?_) | (with_reducible refine s_if ?_) | (with_reducible refine s_next ?_)
  | (with_reducible refine s_brk ?_) | (with_reducible refine s_cont ?_)
  | ((with_reducible refine' s_var ?hv ?_); (case hv => exact rfl)) | (with_reducible refine s_c ?_) | (with_reducible refine s_op ?_) | (with_reducible refine s_un ?_) | (with_reducible refine s_cb ?_) | (with_reducible refine s_call ?_)
  | (with_reducible refine s_cons ?_) | (with_reducible refine s_nil ?_) | (with_reducible refine s_test ?_) | (with_reducible refine s_tB ?_) | (with_reducible refine s_not ?_) | (with_reducible refine s_and ?_) | (with_reducible refine s_or ?_)
  | (with_reducible refine s_andV ?_) | (with_reducible refine s_orV ?_) | (with_reducible refine s_notV ?_) | (with_reducible refine s_ifE ?_) | (with_reducible refine s_bl ?_) | (with_reducible refine s_iT ?_) | (with_reducible refine s_iF ?_)
  | (with_reducible refine s_I0 ?_) | (with_reducible refine s_U ?_) | (with_reducible refine s_addI ?_) | (with_reducible refine s_eqI ?_) | (with_reducible refine s_eqS ?_) | (with_reducible refine s_eqB ?_) | (with_reducible refine s_neI ?_) | (with_reducible refine s_neS ?_) | (with_reducible refine s_neB ?_)
  | (with_reducible refine s_tupE ?_) | (with_reducible refine s_lstE ?_))
local macro_rules | `(tactic| walk_at "us") => `(tactic| repeat walk_at "us1")
local macro_rules | `(tactic| walk_at "ulen") => `(tactic| (intro vs H Q E h; repeat' (first | (obtain ⟨e, _⟩ := h; subst e; rfl) | (subst h; rfl) | (refine Or.elim h (fun h => ?_) (fun h => ?_)) | (obtain ⟨_, h⟩ := h))))
local macro_rules | `(tactic| walk_at "uk") => `(tactic| (try dsimp only [cxOf, Cx.suite, Cx.tr]))
local macro_rules | `(tactic| walk_at "us2") => `(tactic| first
  | walk_at "us1" | (with_reducible refine s_dput ?_) | ((with_reducible refine' s_mod ?hc ?_); (case hc => first | decide | assumption | omega))
  | (with_reducible refine s_for ?_) | (with_reducible refine s_lc ?_) | (with_reducible refine s_bm ?_) | (with_reducible refine s_ilt ?_) | (with_reducible refine s_izx ?_) | (with_reducible refine s_ienum ?_) | (with_reducible refine s_din ?_) | (with_reducible refine s_dnotin ?_) | (with_reducible refine s_itl ?_) | (with_reducible refine s_itt ?_) | (with_reducible refine s_its ?_) | (with_reducible refine s_itr ?_) | (with_reducible refine s_itr2 ?_) | (with_reducible refine s_disp ?_) | (with_reducible refine s_prn ?_) | (with_reducible refine s_prc ?_) | (with_reducible refine s_m1 ?_) | (with_reducible refine s_isS ?_) | (with_reducible refine s_um1 ?_) | (with_reducible refine s_isB ?_) | (with_reducible refine s_isn ?_) | (with_reducible refine s_notn ?_) | (with_reducible refine s_jd ?_) | (with_reducible refine s_jn ?_) | (with_reducible refine s_jc ?_) | (with_reducible refine s_fmt ?_) | (with_reducible refine s_gc ?_) | (with_reducible refine s_gnil ?_) | (with_reducible refine s_yes ?_) | (with_reducible refine s_raise ?_)
  | ((with_reducible refine' s_pow ?hc ?_); (case hc => exact ⟨by decide, by decide, by decide⟩)) | (with_reducible refine s_int ?_) | (with_reducible refine s_intB ?_) | (with_reducible refine s_strS ?_) | (with_reducible refine s_abs ?_) | (with_reducible refine s_max ?_) | (with_reducible refine s_min ?_) | (with_reducible refine s_gcd ?_)
  | (with_reducible refine s_chain ?_) | (with_reducible refine s_sl ?_) | (with_reducible refine s_noP ?_) | (with_reducible refine s_part ?_) | (with_reducible refine s_exI ?_) 
  | ((with_reducible refine' s_mulI ?hc ?_); (case hc => first | exact Or.inl (Or.inr ⟨by decide, by decide⟩) | exact Or.inl (Or.inl ⟨by decide, by decide⟩) | exact Or.inl (Or.inl ⟨by omega, by omega⟩) | exact Or.inl (Or.inr ⟨by omega, by omega⟩) | walk_at "umul"))
  | ((with_reducible refine' s_ixT ?hc ?hd ?_); (case hc => assumption); (case hd => rfl))
  | ((with_reducible refine' s_lenL ?hc ?_); (case hc => first | assumption | exact SqL.of (by assumption))) | ((with_reducible refine' s_lenT ?hc ?_); (case hc => first | assumption | exact SqT.of (by assumption)))
  | ((with_reducible refine' s_divP ?hc ?hd ?_); (case hc => first | decide | assumption | omega); (case hd => first | decide +kernel | assumption)))
local macro_rules | `(tactic| walk_at "us") => `(tactic| repeat walk_at "us2")
local macro_rules | `(tactic| walk_at "uj") => `(tactic| ((walk_at "us"); with_reducible refine s_J ?_))
local macro_rules | `(tactic| walk_at "ua") => `(tactic| ((walk_at "us"); repeat ((with_reducible refine s_ick ?_); (first | (refine s_iF ?_) | (refine s_iT ?_)); (walk_at "us"))))
local macro_rules | `(tactic| walk_at "ub") => `(tactic| walk_at "ua")
local macro_rules | `(tactic| walk_at "ux1") => `(tactic| first
  | walk_at "us2" | ((with_reducible refine' s_ixL ?hc ?hd ?_); (case hc => first | assumption | exact SqL.of (by assumption)); (case hd => rfl)) | ((with_reducible refine' s_ixT ?hc ?hd ?_); (case hc => exact SqT.of (by assumption)); (case hd => rfl))
  | ((with_reducible refine' s_intS ?hc ?hd ?_); (case hc => assumption); (case hd => assumption)) | ((with_reducible refine' s_lenS ?hc ?_); (case hc => assumption)))
local macro_rules | `(tactic| walk_at "ux") => `(tactic| repeat walk_at "ux1")
local macro_rules | `(tactic| walk_at "uy") => `(tactic| ((walk_at "ux"); repeat ((with_reducible refine s_ick ?_); (first | (refine s_iF ?_) | (refine s_iT ?_)); (walk_at "ux"))))
local macro_rules | `(tactic| walk_at "uz0") => `(tactic| first
  | (with_reducible refine s_seq ?_) | (with_reducible refine s_asg ?_) | (with_reducible refine s_gn ?_) | (with_reducible refine s_ret ?_) | (with_reducible refine s_drop ?_) | (with_reducible refine s_if ?_) | (with_reducible refine s_next ?_)
  | (with_reducible refine s_brk ?_) | (with_reducible refine s_cont ?_)
  | ((with_reducible refine' s_var ?hv ?_); (case hv => exact rfl)) | (with_reducible refine s_c ?_) | (with_reducible refine s_op ?_) | (with_reducible refine s_un ?_) | (with_reducible refine s_cb ?_) | (with_reducible refine s_call ?_)
  | (with_reducible refine s_cons ?_) | (with_reducible refine s_nil ?_) | (with_reducible refine s_test ?_) | (with_reducible refine s_tB ?_) | (with_reducible refine s_not ?_) | (with_reducible refine s_and ?_) | (with_reducible refine s_or ?_)
  | (with_reducible refine s_andV ?_) | (with_reducible refine s_orV ?_) | (with_reducible refine s_notV ?_) | (with_reducible refine s_ifE ?_) | (with_reducible refine s_bl ?_) | (with_reducible refine s_iT ?_) | (with_reducible refine s_iF ?_)
  | (with_reducible refine s_I0 ?_) | (with_reducible refine s_U ?_) | (with_reducible refine s_addI ?_) | (with_reducible refine s_eqI ?_) | (with_reducible refine s_eqS ?_) | (with_reducible refine s_eqB ?_) | (with_reducible refine s_neI ?_) | (with_reducible refine s_neS ?_) | (with_reducible refine s_neB ?_))
local macro_rules | `(tactic| walk_at "uz2") => `(tactic| first
  | walk_at "uz0" | (with_reducible refine s_dput ?_) | ((with_reducible refine' s_mod ?hc ?_); (case hc => first | decide | assumption | omega))
  | (with_reducible refine s_for ?_) | (with_reducible refine s_lc ?_) | (with_reducible refine s_bm ?_) | (with_reducible refine s_ilt ?_) | (with_reducible refine s_izx ?_) | (with_reducible refine s_ienum ?_) | (with_reducible refine s_din ?_) | (with_reducible refine s_dnotin ?_) | (with_reducible refine s_itl ?_) | (with_reducible refine s_itt ?_) | (with_reducible refine s_its ?_) | (with_reducible refine s_itr ?_) | (with_reducible refine s_itr2 ?_) | (with_reducible refine s_disp ?_) | (with_reducible refine s_prn ?_) | (with_reducible refine s_prc ?_) | (with_reducible refine s_m1 ?_) | (with_reducible refine s_isS ?_) | (with_reducible refine s_um1 ?_) | (with_reducible refine s_isB ?_) | (with_reducible refine s_isn ?_) | (with_reducible refine s_notn ?_) | (with_reducible refine s_jd ?_) | (with_reducible refine s_jn ?_) | (with_reducible refine s_jc ?_) | (with_reducible refine s_fmt ?_) | (with_reducible refine s_gc ?_) | (with_reducible refine s_gnil ?_) | (with_reducible refine s_yes ?_) | (with_reducible refine s_raise ?_)
  | ((with_reducible refine' s_pow ?hc ?_); (case hc => exact ⟨by decide, by decide, by decide⟩)) | (with_reducible refine s_int ?_) | (with_reducible refine s_intB ?_) | (with_reducible refine s_strS ?_) | (with_reducible refine s_abs ?_) | (with_reducible refine s_max ?_) | (with_reducible refine s_min ?_) | (with_reducible refine s_gcd ?_)
  | (with_reducible refine s_chain ?_) | (with_reducible refine s_sl ?_) | (with_reducible refine s_noP ?_) | (with_reducible refine s_part ?_) | (with_reducible refine s_exI ?_) 
  | ((with_reducible refine' s_mulI ?hc ?_); (case hc => first | exact Or.inl (Or.inr ⟨by decide, by decide⟩) | exact Or.inl (Or.inl ⟨by decide, by decide⟩) | exact Or.inl (Or.inl ⟨by omega, by omega⟩) | exact Or.inl (Or.inr ⟨by omega, by omega⟩) | walk_at "umul"))
  | ((with_reducible refine' s_ixT ?hc ?hd ?_); (case hc => assumption); (case hd => rfl))
  | ((with_reducible refine' s_lenL ?hc ?_); (case hc => first | assumption | exact SqL.of (by assumption))) | ((with_reducible refine' s_lenT ?hc ?_); (case hc => first | assumption | exact SqT.of (by assumption)))
  | ((with_reducible refine' s_divP ?hc ?hd ?_); (case hc => first | decide | assumption | omega); (case hd => first | decide +kernel | assumption)))
local macro_rules | `(tactic| walk_at "uz1") => `(tactic| first
  | walk_at "uz2" | ((with_reducible refine' s_ixL ?hc ?hd ?_); (case hc => first | assumption | exact SqL.of (by assumption)); (case hd => rfl)) | ((with_reducible refine' s_ixT ?hc ?hd ?_); (case hc => exact SqT.of (by assumption)); (case hd => rfl))
  | ((with_reducible refine' s_intS ?hc ?hd ?_); (case hc => assumption); (case hd => assumption)) | ((with_reducible refine' s_lenS ?hc ?_); (case hc => assumption)))
local macro_rules | `(tactic| walk_at "uz") => `(tactic| ((repeat walk_at "uz1"); repeat ((with_reducible refine s_ick ?_); (first | (refine s_iF ?_) | (refine s_iT ?_)); (repeat walk_at "uz1"))))
local macro_rules | `(tactic| walk_at "hx") => `(tactic| fail)
local macro_rules | `(tactic| walk_at "hb") => `(tactic| first | assumption | (refine' Kb.b1 ?hz; (case hz => assumption)) | (refine' BagAt.ex ?ha ?hb; (case hb => assumption); (case ha => walk_at "hb")) | (refine' Kb.b0 ?hz; (case hz => assumption)))
local macro_rules | `(tactic| walk_at "he") => `(tactic| first | assumption | exact exR _ | (refine' Ex.tr ?ha ?hb; (case hb => assumption); (case ha => walk_at "he")))
local macro_rules | `(tactic| walk_at "hk") => `(tactic| first | assumption | (refine Kb.refl ?_; walk_at "hb") | (refine' Kb.tr ?ha ?hb; (case hb => assumption); (case ha => walk_at "hk")) | (refine' kb_e ?ha ?hb; (case hb => assumption); (case ha => walk_at "hk")))
local macro_rules | `(tactic| walk_at "hp") => `(tactic| first
  | assumption | (refine SqT.of ?_; assumption) | (refine SqL.of ?_; assumption)
  | (refine' Ex.st ?ha ?hb; (case hb => assumption); (case ha => walk_at "hp")) | (refine' Ex.sl ?ha ?hb; (case hb => assumption); (case ha => walk_at "hp"))
  | (refine' ex_at ?ha ?hb; (case hb => assumption); (case ha => walk_at "hp")) | (refine' Dp.ex ?ha ?hb; (case hb => assumption); (case ha => walk_at "hp"))
  | (refine' kb_t ?ha ?hb; (case hb => assumption); (case ha => walk_at "hp")) | (refine' kb_l ?ha ?hb; (case hb => assumption); (case ha => walk_at "hp"))
  | (refine' kb_at ?ha ?hb ?hn; (case hb => assumption); (case hn => intro _ z; cases z); (case ha => walk_at "hp")) | (refine' kb_dp ?ha ?hb; (case hb => assumption); (case ha => walk_at "hp"))
  | (refine' sqt_im ?ha ?hb; (case hb => assumption); (case ha => walk_at "hp")) | (refine' ins_im ?ha ?hb; (case hb => assumption); (case ha => walk_at "hp"))
  | walk_at "hx")
local macro_rules | `(tactic| walk_at "uz0") => `(tactic| first
  | (with_reducible refine s_fld ?_) | (with_reducible refine s_mk ?_) | (with_reducible refine s_mkD ?_) | (with_reducible refine s_meth ?_) | (with_reducible refine s_ownO ?_) | (with_reducible refine s_negO ?_) | (with_reducible refine s_cmpO ?_) | (with_reducible refine s_stC ?_) | (with_reducible refine s_stI ?_)
  | (with_reducible refine s_getO ?_) | (with_reducible refine s_gsub ?_))
local macro_rules | `(tactic| walk_at "umul") => `(tactic| exact Or.inr (mulB (by assumption) (by assumption)))
local macro_rules | `(tactic| walk_at "uz0") => `(tactic| first
  | ((with_reducible refine' s_fTb ?hT ?ha ?_); (case hT => assumption); (case ha => assumption)) | (with_reducible refine s_dget ?_)
  | ((with_reducible refine' s_ixT ?hc ?hd ?_); (case hc => assumption); (case hd => rfl)) | ((with_reducible refine' s_lenT ?hc ?_); (case hc => assumption)) | ((with_reducible refine' s_lenL ?hc ?_); (case hc => first | assumption | exact SqL.of (by assumption))) | ((with_reducible refine' s_lenT ?hc ?_); (case hc => exact SqT.of (by assumption))) | ((with_reducible refine' s_ixT ?hc ?hd ?_); (case hc => exact SqT.of (by assumption)); (case hd => rfl)))
theorem pick_ix {ns : List Int} {at_ : Int} (h : 0 ≤ at_) (l : at_ < (ns.length : Int)) : ∃ z, atI (ns.map V.int) at_ = some (.int z) := by
  obtain ⟨j, rfl⟩ := Int.eq_ofNat_of_zero_le h
  exact ⟨_, atI_cell (by omega)⟩
section
variable {P : Program} {w : World} {K : PySem.W.Frag} {mg : Str → Option Value} {base : Heap}
variable {cE cS cX cN cP cW cG cZ : Addr}
theorem ok_l_pick (T : Tp P K mg cE cS cX cN cP cW cG cZ)
    {f : Addr} {fd : FuncData} {dvs : List V} (F : FunD K "_law_pick" "_law_pick" (defArgs s_l_pick) (defBody s_l_pick) (defScope s_l_pick) dvs [] f fd) : FnG P w K mg base 1 f fd P_l_pick (spPick) := by
  refine fng F sc_l_pick (by walk_at "ulen") (fun cdv A outer s H vs Q E hr0 hg0 h => ?_)
  have hr : Rm 0 (A.deeper (envOfC "_law_pick" (defScope s_l_pick) s.heap.objs.size f cdv)) := ⟨hr0, hg0⟩
  have nd : N_l_pick.Nodup := sc_l_pick.nd
  obtain ⟨b, m, rfl, hb, m0, m9, k⟩ := h
  obtain ⟨c, ns, at_, rest, mixed, count, B⟩ := hb
  refine ⟨_, (pss_cons (ps_dput (hu_of hr.r) (pv 0) pe_str (pe_op op_uAdd (pe_dget (hu_of hr.r) (pv 0) pe_str (fun _ _ => rfl)) pe_int) rfl)
    (pss_cons (ps_if (pt_cmpR op_gt (pe_dget (hu_of hr.r) (pv 0) pe_str (fun _ _ => rfl)) pe_int (nomark _)) (pss_cons (ps_set (i := 2) nd rfl (Or.inl rfl) (pe_dget (hu_of hr.r) (pv 0) pe_str (fun _ _ => rfl)))
    (pss_cons (ps_dput (hu_of hr.r) (pv 0) pe_str (pe_op op_uDiv (pv 2) (pv 1)) rfl)
    (pss_one (ps_ret (pe_op op_mod (pe_callTy call_uInt (by rfl) T.int b_int (pa_cons (pv 2) pa_nil)) (pv 1)))))) pss_nil)
    (pss_cons (ps_set (i := 3) nd rfl (Or.inl rfl) pe_int)
    (pss_consJ (ps_if (pt_cmpR op_lt (pe_dget (hu_of hr.r) (pv 0) pe_str (fun _ _ => rfl)) (pe_callB call_uLen (by rfl) T.len b_len (pa_cons (pe_dget (hu_of hr.r) (pv 0) pe_str (fun _ _ => rfl)) pa_nil)) (nomark _)) (pss_cons (ps_set (i := 3) nd rfl (Or.inl rfl) (pe_ix ix_seq (pe_dget (hu_of hr.r) (pv 0) pe_str (fun _ _ => rfl)) (pe_dget (hu_of hr.r) (pv 0) pe_str (fun _ _ => rfl)) (fun _ _ => rfl)))
    (pss_cons (ps_dput (hu_of hr.r) (pv 0) pe_str (pe_op op_uAdd (pe_dget (hu_of hr.r) (pv 0) pe_str (fun _ _ => rfl)) pe_int) rfl)
    (pss_one (ps_if (pt_cmpR op_ge (pv 3) (pe_op op_pow pe_int pe_int) (nomark _)) (pss_cons (ps_dput (hu_of hr.r) (pv 0) pe_str (pe_op op_uDiv (pv 3) (pv 1)) rfl)
    (pss_one (ps_ret (pe_op op_mod (pe_callTy call_uInt (by rfl) T.int b_int (pa_cons (pv 3) pa_nil)) (pv 1))))) pss_nil)))) pss_nil)
    (pss_cons (ps_set (i := 2) nd rfl (Or.inl rfl) (pe_op op_mod (pe_callTy call_uInt (by rfl) T.int b_int (pa_cons (pe_op op_uAdd (pe_op op_uAdd (pe_op op_uMul (pv 3) pe_int) (pe_op op_uMul (pe_dget (hu_of hr.r) (pv 0) pe_str (fun _ _ => rfl)) pe_int)) (pe_op op_uMul (pe_dget (hu_of hr.r) (pv 0) pe_str (fun _ _ => rfl)) pe_int)) pa_nil)) pe_int))
    (pss_cons (ps_set (i := 2) nd rfl (Or.inl rfl) (pe_op op_mod (pe_callTy call_uInt (by rfl) T.int b_int (pa_cons (pe_op op_uAdd (pe_op op_uMul (pv 2) pe_int) pe_int) pa_nil)) pe_int))
    (pss_cons (ps_dput (hu_of hr.r) (pv 0) pe_str (pe_op op_mod (pe_callTy call_uInt (by rfl) T.int b_int (pa_cons (pv 2) pa_nil)) pe_int) rfl)
    (pss_one (ps_ret (pe_op op_mod (pe_callTy call_uInt (by rfl) T.int b_int (pa_cons (pe_op op_uDiv (pv 2) pe_int) pa_nil)) (pv 1))))))))))), ?_⟩
  walk_at "uk"
  walk_at "us"
  refine s_bget B rfl bv_count ?_
  walk_at "us"
  refine s_bput B bp_count B.nn fun H1 B1 k1 => ?_
  walk_at "us"
  refine s_bget B1 rfl bv_rest ?_
  walk_at "us"
  refine s_ite (fun hr0 => ?_) (fun hr0 => ?_)
  · walk_at "us"
    refine s_bget B1 rfl bv_rest ?_
    walk_at "us"
    refine s_bput B1 bp_rest B.nn fun H2 B2 k2 => ?_
    walk_at "us"
    exact k _ _ (Int.emod_nonneg _ (by omega)) (Int.emod_lt_of_pos _ m0) (k1.tr k2)
  walk_at "uj"
  refine s_seqJ (fun σ H' => ∃ (z at' r' : Int), BagIs H' b c ns at' r' mixed (count + 1) ∧ Kb b H H' ∧ σ = [some (V.ref b), some (V.int m), none, (some (.int z))]) (fun σ H2 ⟨z, at', r', B2, k2, e⟩ => ?_) (fun R hR => ?_)
  · subst e
    walk_at "us"
    refine s_bget B2 rfl bv_mixed ?_
    walk_at "us"
    refine s_bget B2 rfl bv_count ?_
    walk_at "us"
    refine s_bput B2 bp_mixed B2.nn fun H3 B3 k3 => ?_
    walk_at "us"
    exact k _ _ (Int.emod_nonneg _ (by omega)) (Int.emod_lt_of_pos _ m0) (k2.tr k3)
  walk_at "us"
  refine s_bget B1 rfl bv_at ?_
  walk_at "us"
  refine s_bget B1 rfl bv_cells ?_
  walk_at "us"
  refine s_lenL (.of B1.l) ?_
  walk_at "us"
  refine s_ite (fun hr1 => ?_) (fun hr1 => ?_)
  · walk_at "us"
    refine s_bget B1 rfl bv_cells ?_
    refine s_bget B1 rfl bv_at ?_
    obtain ⟨z, hz⟩ := pick_ix B1.nn (by simpa using hr1)
    refine s_ixL (.of B1.l) hz ?_
    walk_at "us"
    refine s_bget B1 rfl bv_at ?_
    walk_at "us"
    refine s_bput B1 bp_at (by have := B1.nn; omega) fun H2 B2 k2 => ?_
    walk_at "us"
    refine s_ite (fun hr2 => ?_) (fun hr2 => ?_)
    · walk_at "us"
      refine s_bput B2 bp_rest B2.nn fun H3 B3 k3 => ?_
      walk_at "us"
      exact k _ _ (Int.emod_nonneg _ (by omega)) (Int.emod_lt_of_pos _ m0) ((k1.tr k2).tr k3)
    walk_at "us"
    exact hR _ _ ⟨z, _, _, B2, k1.tr k2, rfl⟩
  walk_at "us"
  exact hR _ _ ⟨0, _, _, B1, k1, rfl⟩
end

theorem mem_ix {xs : List V} {r : Int} (h0 : 0 ≤ r) (h1 : r < (xs.length : Int)) : ∃ v, atI xs r = some v ∧ v ∈ xs := by
  obtain ⟨j, rfl⟩ := Int.eq_ofNat_of_zero_le h0
  have hj : j < xs.length := by omega
  exact ⟨_, atI_nat (List.getElem?_eq_getElem hj), List.getElem_mem hj⟩
theorem ix_str {z : Str} {r : Int} (h0 : 0 ≤ r) (h1 : r < (z.length : Int)) : ∃ c, atI z.cps.toList r = some c ∧ c ∈ z.cps.toList := by
  obtain ⟨j, rfl⟩ := Int.eq_ofNat_of_zero_le h0
  have hj : j < z.cps.toList.length := by
    have : (z.length : Int) = z.cps.toList.length := by simp [PySem.Str.length]
    omega
  exact ⟨_, atI_nat (List.getElem?_eq_getElem hj), List.getElem_mem hj⟩
theorem log_small {n : Nat} (h : n ≤ 10000) : ((n : Int)).natAbs.log2 < 9000 := by
  have : (n : Int).natAbs = n := rfl
  rw [this]
  by_cases z : n = 0
  · subst z; decide
  · have := (Nat.log2_lt z (k := 14)).mpr (by omega)
    omega
section
variable {P : Program} {w : World} {K : PySem.W.Frag} {mg : Str → Option Value} {base : Heap}
variable {cE cS cX cN cP cW cG cZ : Addr}
theorem ok_l_choice (T : Tp P K mg cE cS cX cN cP cW cG cZ)
    (c_l_pick : Cal P w K mg base 1 "_law_pick" P_l_pick [] (spPick))
    {f : Addr} {fd : FuncData} {dvs : List V} (F : FunD K "_law_choice" "_law_choice" (defArgs s_l_choice) (defBody s_l_choice) (defScope s_l_choice) dvs [] f fd) : FnG P w K mg base 2 f fd P_l_choice (spChoice K) := by
  refine fng F sc_l_choice (by walk_at "ulen") (fun cdv A outer s H vs Q E hr0 hg0 h => ?_)
  have hr : Rm 1 (A.deeper (envOfC "_law_choice" (defScope s_l_choice) s.heap.objs.size f cdv)) := ⟨hr0, hg0⟩
  have nd : N_l_choice.Nodup := sc_l_choice.nd
  refine ⟨_, (pss_one (ps_ret (pe_ix ix_seq (pv 1) (pe_c (E := En) c_l_pick (hr.mono (by decide)) paN (pa_cons (pv 0) (pa_cons (pe_callB call_uLen (by rfl) T.len b_len (pa_cons (pv 1) pa_nil)) pa_nil))) (fun _ _ => rfl)))), ?_⟩
  walk_at "uk"
  obtain ⟨b, hb, ⟨p, xs, rfl, hp, l0, l9, k⟩ | ⟨z, rfl, l0, l9, k⟩⟩ := h
  · walk_at "us"
    refine ⟨b, _, rfl, hb, by omega, log_small (by omega), fun r H' r0 r1 kb => ?_⟩
    obtain ⟨v, hv, hm⟩ := mem_ix r0 r1
    refine s_ixL (kb.l hp) hv ?_
    exact k _ _ hm kb
  · walk_at "us"
    refine s_lenS (by show z.length ≤ 16777216; omega) ?_
    walk_at "us"
    refine ⟨b, _, rfl, hb, by omega, log_small (by omega), fun r H' r0 r1 kb => ?_⟩
    obtain ⟨c, hc, hm⟩ := ix_str r0 r1
    refine s_ixS (by show z.length ≤ 16777216; omega) hc ?_
    exact k _ _ hm kb
end

theorem take_ix {ns : List Int} {i : Nat} {x : V} (h : (ns.map V.int)[i]? = some x) : ∃ c, x = .int c ∧ ns.take (i + 1) = ns.take i ++ [c] ∧ i < ns.length := by
  rw [List.getElem?_map] at h
  cases e : ns[i]? with
  | none => rw [e] at h; cases h
  | some c =>
    rw [e] at h
    have hi := (List.getElem?_eq_some_iff.mp e).1
    refine ⟨c, (Option.some.inj h).symm, ?_, hi⟩
    rw [List.take_add_one, e]
    rfl
section
variable {P : Program} {w : World} {K : PySem.W.Frag} {mg : Str → Option Value} {base : Heap}
variable {cE cS cX cN cP cW cG cZ : Addr}
theorem ok_l_bag_of (T : Tp P K mg cE cS cX cN cP cW cG cZ)
    {f : Addr} {fd : FuncData} {dvs : List V} (F : FunD K "_law_bag_of" "_law_bag_of" (defArgs s_l_bag_of) (defBody s_l_bag_of) (defScope s_l_bag_of) dvs [] f fd) : FnG P w K mg base 1 f fd P_l_bag_of (spBagOf K) := by
  refine fng F sc_l_bag_of (by walk_at "ulen") (fun cdv A outer s H vs Q E hr0 hg0 h => ?_)
  have hr : Rm 0 (A.deeper (envOfC "_law_bag_of" (defScope s_l_bag_of) s.heap.objs.size f cdv)) := ⟨hr0, hg0⟩
  have nd : N_l_bag_of.Nodup := sc_l_bag_of.nd
  have po : PassesOwn (model P w) (cxOf (L2.CX P w) P w K mg base N_l_bag_of "_law_bag_of" (defScope s_l_bag_of) f cdv A outer s H E).A (cxOf (L2.CX P w) P w K mg base N_l_bag_of "_law_bag_of" (defScope s_l_bag_of) f cdv A outer s H E).env (cxOf (L2.CX P w) P w K mg base N_l_bag_of "_law_bag_of" (defScope s_l_bag_of) f cdv A outer s H E).xe := passes_of rfl
  obtain ⟨p, ns, rfl, hp, hl, hb, k⟩ := h
  refine ⟨_, (pss_cons (ps_set (i := 1) nd rfl (Or.inl rfl) pe_int)
    (pss_cons (ps_for po rfl (pi_list (pv 0)) (pg_name (i := 2) nd rfl (Or.inl rfl))
    (pss_one (ps_set (i := 1) nd rfl (Or.inl rfl) (pe_op op_mod (pe_callTy call_uInt (by rfl) T.int b_int (pa_cons (pe_op op_uAdd (pe_op op_uAdd (pe_op op_uMul (pv 1) pe_int) (pv 2)) pe_int) pa_nil)) pe_int))))
    (pss_one (ps_ret (pe_disp (pps_cons pe_str (pe_lc (own := [("_law_cell", 2)]) (g := gName 2) (by rfl) nd (pi_list (pv 0)) (blkOk_by (own := [("_law_cell", 2)]) (N := N_l_bag_of) (sc := defScope s_l_bag_of) (by decide +kernel)) (fun s_ H_ C_ cl_ fp_ => pg_name (i := 2) nd rfl (Or.inl rfl)) (fun s_ H_ C_ cl_ fp_ => pts_nil) (fun s_ H_ C_ cl_ fp_ => (pv 2))) (pps_cons pe_str pe_int (pps_cons pe_str pe_int (pps_cons pe_str (pv 1) (pps_cons pe_str pe_int pps_nil))))) (by rfl) (by rfl) (fun z => by cases z) (by decide)))))), ?_⟩
  walk_at "uk"
  walk_at "us"
  refine loopL (xs := List.map V.int ns) (fun i σ' H' => H = H' ∧ ∃ m : Int, 0 ≤ m ∧ m < 1000003 ∧ ∃ oc, σ' = [some (V.ref p), (some (.int m)), oc]) ⟨rfl, 7, by decide, by decide, none, rfl⟩ ?_ ?_ ?_
  · rintro i σ' _ ⟨rfl, _⟩
    exact hp
  · rintro σ' _ ⟨rfl, m, m0, m1, oc, rfl⟩
    walk_at "us"
    intro q hq
    walk_at "us"
    have e0 := exN (o := .dK []) hq
    refine lcL (Ex.sl hp e0) (fun D i acc H' => Ex (upd H q (.dK [])) H' ∧ H' D = some (.lst acc) ∧ acc = (ns.take i).map V.int) (fun D hD => ⟨exN hD, upd_same, rfl⟩) (fun D i acc H' z => z.1) ?_ ?_
    · rintro D acc H' hD ⟨e, hd, rfl⟩
      walk_at "us"
      refine ⟨e _ _ upd_same, bagK D 0 0 m 0, rfl, Nat.le_of_ble_eq_true rfl, ?_⟩
      rw [merge_new (kvs := bagK D 0 0 m 0) (show ((["cells", "at", "rest", "mixed", "count"] : List Str).map (fun x => (.inr x : Key))).Nodup from by decide +kernel)]
      have nq : D ≠ q := fun z => by rw [z, upd_same] at hD; cases hD
      exact k _ _ (ex_put hq (e0.tr e)) ⟨D, ns, 0, 0, m, 0, upd_same, by rw [upd_ne nq, hd, List.length_map, List.take_length], Int.le_refl _, hl⟩
    · rintro D i x acc H' hD hx ⟨e, hd, rfl⟩
      obtain ⟨c, rfl, ht, hi⟩ := take_ix hx
      walk_at "us"
      refine ⟨rfl, ?_⟩
      walk_at "us"
      exact ⟨_, hd, by rw [List.length_map, List.length_take]; exact Nat.lt_of_le_of_lt (Nat.min_le_right _ _) (Nat.lt_of_le_of_lt hl (by decide)), _, ex_put hD e, upd_same, by rw [ht, List.map_append]; rfl⟩
  · rintro i x σ' _ hx ⟨rfl, m, m0, m1, oc, rfl⟩
    obtain ⟨c, rfl, _⟩ := take_ix hx
    walk_at "us"
    exact ⟨rfl, _, Int.emod_nonneg _ (by decide), Int.emod_lt_of_pos _ (by decide), some (.int c), rfl⟩
end

section
variable {P : Program} {w : World} {K : PySem.W.Frag} {mg : Str → Option Value} {base : Heap}
variable {cE cS cX cN cP cW cG cZ : Addr}
theorem ok_l_integer (T : Tp P K mg cE cS cX cN cP cW cG cZ)
    {f : Addr} {fd : FuncData} {dvs : List V} (F : FunD K "_law_integer" "_law_integer" (defArgs s_l_integer) (defBody s_l_integer) (defScope s_l_integer) dvs [] f fd) : FnG P w K mg base 1 f fd P_l_integer (spInteger K) := by
  refine fng F sc_l_integer (by walk_at "ulen") (fun cdv A outer s H vs Q E hr0 hg0 h => ?_)
  have hr : Rm 0 (A.deeper (envOfC "_law_integer" (defScope s_l_integer) s.heap.objs.size f cdv)) := ⟨hr0, hg0⟩
  have nd : N_l_integer.Nodup := sc_l_integer.nd
  obtain ⟨v, d, rfl, hd, k⟩ := h
  refine ⟨_, (pss_one (ps_ret (pe_and (pe_callB call_isi (by rfl) T.isinstance b_isinstance (pa_cons (pv 0) (pa_cons (pe_bltn (v := .ty "int") (by rfl) T.int b_int rfl) pa_nil))) (pe_one (pe_not (pe_callB call_isi (by rfl) T.isinstance b_isinstance (pa_cons (pv 0) (pa_cons (pe_bltn (v := .ty "bool") (by rfl) T.bool b_bool rfl) pa_nil)))))))), ?_⟩
  walk_at "uk"
  walk_at "us"
  refine s_isInt hd ?_
  cases hd with
  | int i =>
    walk_at "ua"
    refine s_isBool (.int i) ?_
    walk_at "ua"
    exact k
  | bl b =>
    walk_at "ua"
    refine s_isBool (.bl b) ?_
    walk_at "ua"
    exact k
  | _ =>
    walk_at "ua"
    exact k
end

section
variable {P : Program} {w : World} {K : PySem.W.Frag} {mg : Str → Option Value} {base : Heap}
variable {cE cS cX cN cP cW cG cZ : Addr}
theorem ok_l_integer_h (T : Tp P K mg cE cS cX cN cP cW cG cZ)
    {f : Addr} {fd : FuncData} {dvs : List V} (F : FunD K "_law_integer" "_law_integer" (defArgs s_l_integer) (defBody s_l_integer) (defScope s_l_integer) dvs [] f fd) : FnHG P w K mg base 1 f fd P_l_integer (spIntH) := by
  refine fngH F sc_l_integer (fun _ _ _ => by walk_at "ulen") (fun cdv A outer s H vs Q E p c d hr0 hg0 hz hf h => ?_)
  have hr : RmH 0 (A.deeper (envOfC "_law_integer" (defScope s_l_integer) s.heap.objs.size f cdv)) := ⟨⟨hr0⟩, hg0⟩
  have nd : N_l_integer.Nodup := sc_l_integer.nd
  have hpx : PinX (cxU P w K mg base N_l_integer "_law_integer" (defScope s_l_integer) f cdv A outer s H E p) p.1 c d := ⟨p.2, List.mem_singleton.mpr rfl, hz, hf⟩
  obtain ⟨i, rfl, k⟩ := h
  refine ⟨_, (pss_one (ps_ret (pe_and (pe_callB call_isi (by rfl) T.isinstance b_isinstance (pa_cons (pv 0) (pa_cons (pe_bltn (v := .ty "int") (by rfl) T.int b_int rfl) pa_nil))) (pe_one (pe_not (pe_callB call_isi (by rfl) T.isinstance b_isinstance (pa_cons (pv 0) (pa_cons (pe_bltn (v := .ty "bool") (by rfl) T.bool b_bool rfl) pa_nil)))))))), ?_⟩
  walk_at "uk"
  walk_at "us"
  refine s_isInt (.int i) ?_
  walk_at "ua"
  refine s_isBool (.int i) ?_
  walk_at "ua"
  exact k
end

theorem perm_erase {xs : List V} : ∀ {k : Nat} {y : V}, xs[k]? = some y → xs.Perm (y :: xs.eraseIdx k) := by
  induction xs with
  | nil => intro k y h; cases h
  | cons x xs ih =>
    intro k y h
    cases k with
    | zero => cases h; exact List.Perm.refl _
    | succ k =>
      have h' : xs[k]? = some y := by simpa using h
      rw [List.eraseIdx_cons_succ]
      exact ((ih h').cons x).trans (List.Perm.swap y x _)
section
variable {P : Program} {w : World} {K : PySem.W.Frag} {mg : Str → Option Value} {base : Heap}
variable {cE cS cX cN cP cW cG cZ : Addr}
theorem ok_l_shuffled (T : Tp P K mg cE cS cX cN cP cW cG cZ)
    (c_l_pick : Cal P w K mg base 1 "_law_pick" P_l_pick [] (spPick))
    {f : Addr} {fd : FuncData} {dvs : List V} (F : FunD K "_law_shuffled" "_law_shuffled" (defArgs s_l_shuffled) (defBody s_l_shuffled) (defScope s_l_shuffled) dvs [] f fd) : FnG P w K mg base 2 f fd P_l_shuffled (spShuffledN K) := by
  refine fng F sc_l_shuffled (by walk_at "ulen") (fun cdv A outer s H vs Q E hr0 hg0 h => ?_)
  have hr : Rm 1 (A.deeper (envOfC "_law_shuffled" (defScope s_l_shuffled) s.heap.objs.size f cdv)) := ⟨hr0, hg0⟩
  have nd : N_l_shuffled.Nodup := sc_l_shuffled.nd
  obtain ⟨b, p, us, rfl, hb, hp, lu, k⟩ := h
  refine ⟨_, (pss_cons (ps_set (i := 2) nd rfl (Or.inr rfl) (pe_callTy call_uList (by rfl) T.list b_list (pa_cons (pv 1) pa_nil)))
    (pss_one (ps_ret (pe_lc (own := [("_law_thing", 3)]) (g := gName 3) (by rfl) nd (pi_list (pv 1)) (blkOk_by (own := [("_law_thing", 3)]) (N := N_l_shuffled) (sc := defScope s_l_shuffled) (by decide +kernel)) (fun s_ H_ C_ cl_ fp_ => pg_name (i := 3) nd rfl (Or.inl rfl)) (fun s_ H_ C_ cl_ fp_ => pts_nil) (fun s_ H_ C_ cl_ fp_ => (pe_bmK (K := K) rfl PySem.F.plainAttrs_list PySem.F.slot_list_pop PySem.F.type_list_pop mt_popAt (pv 2) (pa_cons (pe_c (E := En) c_l_pick (hr.mono (by decide)) paN (pa_cons (pv 0) (pa_cons (pe_callB (call_uLenK (K := K) rfl) (by rfl) T.len b_len (pa_cons (pv 2) pa_nil)) pa_nil))) pa_nil))))))), ?_⟩
  walk_at "uk"
  walk_at "uz"
  refine s_listL hp fun r nr => s_nw nr fun H1 e1 f1 => ?_
  have k1 := e1.kb hb
  walk_at "uz"
  have hp1 := Ex.sl hp e1
  refine ⟨p, rfl, ⟨_, hp1⟩, lc_d us.length (fun D i acc H' => Kb b H H' ∧ SqL K H' p us ∧ H' D = some (.lst acc) ∧ r ≠ D ∧ acc.length = i ∧ ∃ rest, H' r = some (.lst rest) ∧ (acc ++ rest).Perm us) (fun D n => ?_) (fun D acc H' n h => ⟨_, h.2.1, Nat.le_refl _⟩) (fun D i acc H' n h z => ⟨_, _, h.2.1, List.getElem?_eq_getElem z⟩) (fun D acc H' n h => ?_) fun D i x acc H2 H' nD z h y => ?_⟩
  · have ne : r ≠ D := fun z => by rw [← z, f1] at n; cases n
    exact ⟨k1.put (by cases q : H D with | none => rfl | some o => (have := e1 _ _ q; rw [n] at this; cases this)) _, Ex.sl hp1 (exN n), upd_same, ne, rfl, us, by rw [upd_ne ne]; exact f1, List.Perm.refl _⟩
  · obtain ⟨kb, _, hD, ne, la, rest, hr, pm⟩ := h
    walk_at "uz"
    have l := pm.length_eq
    rw [List.length_append, la] at l
    have r0 : rest = [] := List.eq_nil_of_length_eq_zero (by omega)
    rw [r0, List.append_nil] at pm
    exact k D acc H' kb pm hD (by cases q : H D with | none => rfl | some o => (have := e1 _ _ q; rw [n] at this; cases this))
  · obtain ⟨kb, hp2, hD, ne, la, rest, hr, pm⟩ := h
    obtain ⟨rfl, y⟩ := y
    have l := pm.length_eq
    rw [List.length_append, la] at l
    refine ⟨rfl, s_yes (s_iT ?_)⟩
    walk_at "uz"
    refine s_tyL (.of hr) ?_
    walk_at "uz"
    refine ⟨b, _, rfl, kb.b1, by omega, lt_log9000 (by omega), fun x3 H3 x0 x1 k3 => ?_⟩
    obtain ⟨j, rfl⟩ := Int.eq_ofNat_of_zero_le x0
    have hj : j < rest.length := by omega
    have hr3 := k3.at hr fun _ z => by cases z
    have hD3 := k3.at hD fun _ z => by cases z
    have hp3 := k3.l hp2
    have kb3 := kb.tr k3
    walk_at "uz"
    refine ⟨r, rest, j, j, rest[j], rfl, rfl, hr3, by omega, by omega, by rw [seqIndex_of (by omega) (by omega)]; rfl, List.getElem?_eq_getElem hj, ?_⟩
    have nr0 : H r = none := nr
    have nD0 : H D = none := by cases q : H D with | none => rfl | some o => (have := e1 _ _ q; rw [nD] at this; cases this)
    have kbF := (kb3.put nr0 (.lst (rest.eraseIdx j))).put nD0 (.lst (acc ++ [rest[j]]))
    refine ⟨acc, by rw [upd_ne (Ne.symm ne)]; exact hD3, by show _ < 16777216; omega, _, kbF, kbF.l hp, upd_same, ne, by rw [List.length_append, la]; rfl, rest.eraseIdx j, by rw [upd_ne ne]; exact upd_same, ?_⟩
    rw [List.append_assoc]
    exact (List.Perm.append_left acc (perm_erase (List.getElem?_eq_getElem hj)).symm).trans pm
end

theorem gcd_step (a b : Int) (ha : 0 ≤ a) (hb : 0 < b) : Int.gcd b (a % b) = Int.gcd a b := by
  obtain ⟨x, rfl⟩ := Int.eq_ofNat_of_zero_le ha
  obtain ⟨y, rfl⟩ := Int.eq_ofNat_of_zero_le (Int.le_of_lt hb)
  show Nat.gcd y (x % y) = Nat.gcd x y
  rw [Nat.gcd_comm y, ← Nat.gcd_rec, Nat.gcd_comm]
section
variable {P : Program} {w : World} {K : PySem.W.Frag} {mg : Str → Option Value} {base : Heap}
variable {cE cS cX cN cP cW cG cZ : Addr}
theorem ok_l_gcd (T : Tp P K mg cE cS cX cN cP cW cG cZ)
    {f : Addr} {fd : FuncData} {dvs : List V} (F : FunD K "_law_gcd" "_law_gcd" (defArgs s_l_gcd) (defBody s_l_gcd) (defScope s_l_gcd) dvs [] f fd) : FnG P w K mg base 1 f fd P_l_gcd (spGcd) := by
  refine fng F sc_l_gcd (by walk_at "ulen") (fun cdv A outer s H vs Q E hr0 hg0 h => ?_)
  have hr : Rm 0 (A.deeper (envOfC "_law_gcd" (defScope s_l_gcd) s.heap.objs.size f cdv)) := ⟨hr0, hg0⟩
  have nd : N_l_gcd.Nodup := sc_l_gcd.nd
  have po : PassesOwn (model P w) (cxOf (L2.CX P w) P w K mg base N_l_gcd "_law_gcd" (defScope s_l_gcd) f cdv A outer s H E).A (cxOf (L2.CX P w) P w K mg base N_l_gcd "_law_gcd" (defScope s_l_gcd) f cdv A outer s H E).env (cxOf (L2.CX P w) P w K mg base N_l_gcd "_law_gcd" (defScope s_l_gcd) f cdv A outer s H E).xe := passes_of rfl
  obtain ⟨n, d, rfl, k⟩ := h
  refine ⟨_, (pss_cons (ps_set (i := 2) nd rfl (Or.inl rfl) (pe_callB call_uAbs (by rfl) T.abs b_abs (pa_cons (pv 0) pa_nil)))
    (pss_cons (ps_set (i := 3) nd rfl (Or.inl rfl) (pe_callB call_uAbs (by rfl) T.abs b_abs (pa_cons (pv 1) pa_nil)))
    (pss_cons (ps_while po (pt_cmpR op_gt (pv 3) pe_int (nomark _)) (pss_cons (ps_set (i := 4) nd rfl (Or.inl rfl) (pe_op op_mod (pe_callTy call_uInt (by rfl) T.int b_int (pa_cons (pv 2) pa_nil)) (pv 3)))
    (pss_cons (ps_set (i := 2) nd rfl (Or.inl rfl) (pv 3))
    (pss_one (ps_set (i := 3) nd rfl (Or.inl rfl) (pv 4))))))
    (pss_one (ps_ret (pv 2)))))), ?_⟩
  walk_at "uk"
  walk_at "us"
  refine ⟨fun m σ' H' => H = H' ∧ ∃ (a : Int) (oc : Option V), 0 ≤ a ∧ Int.gcd a (m : Int) = Int.gcd n d ∧ σ' = [some (.int n), some (.int d), (some (.int a)), (some (.int (m : Int))), oc], ⟨d.natAbs, rfl, (n.natAbs : Int), none, by omega, by simp [Int.gcd], rfl⟩, ?_⟩
  rintro m σ' _ ⟨rfl, a, oc, a0, hg, rfl⟩
  walk_at "us"
  refine s_ite (fun hm => ?_) (fun hm => ?_)
  · refine s_turn ?_
    walk_at "us"
    have r0 : 0 ≤ a % (m : Int) := Int.emod_nonneg _ (by omega)
    have r1 : a % (m : Int) < m := Int.emod_lt_of_pos _ hm
    refine ⟨(a % (m : Int)).toNat, by omega, rfl, (m : Int), some (.int (a % (m : Int))), by omega, ?_, ?_⟩
    · rw [Int.toNat_of_nonneg r0, gcd_step a m a0 hm, hg]
    · rw [Int.toNat_of_nonneg r0]
      rfl
  · walk_at "us"
    have : m = 0 := by omega
    subst this
    rw [show Int.gcd n d = Int.gcd a ((0 : Nat) : Int) from hg.symm] at k
    have e : (Int.gcd a ((0 : Nat) : Int) : Int) = a := by simp; omega
    rw [e] at k
    exact k
end

theorem gcd_ne {n d : Int} (h : d ≠ 0) : 0 < Int.gcd n d := Int.gcd_pos_of_ne_zero_right n h
theorem gN_ne {n d : Int} (h : d ≠ 0) : gN n d ≠ 0 := by
  have := gcd_ne (n := n) h
  unfold gN
  split <;> omega
theorem gN_abs (n d : Int) : (gN n d).natAbs = Int.gcd n d := by
  unfold gN
  split <;> omega
theorem gN_log {n d : Int} (h : d ≠ 0) (b : Md d) : (gN n d).natAbs.log2 < 9000 := by
  rw [gN_abs]
  have : Int.gcd n d ≤ d.natAbs := Nat.le_of_dvd (by omega) (Int.natAbs_dvd_natAbs.mpr (Int.gcd_dvd_right n d))
  exact Nat.lt_trans (log_le (Nat.lt_of_le_of_lt this b) (by decide)) (by decide)
section
variable {P : Program} {w : World} {K : PySem.W.Frag} {mg : Str → Option Value} {base : Heap}
variable {cE cS cX cN cP cW cG cZ : Addr}
theorem ok_l_ratio (T : Tp P K mg cE cS cX cN cP cW cG cZ)
    (c_l_gcd : Cal P w K mg base 1 "_law_gcd" P_l_gcd [] (spGcd))
    {f : Addr} {fd : FuncData} {dvs : List V} (F : FunD K "_law_ratio" "_law_ratio" (defArgs s_l_ratio) (defBody s_l_ratio) (defScope s_l_ratio) dvs [] f fd) : FnG P w K mg base 2 f fd P_l_ratio (spLRatio) := by
  refine fng F sc_l_ratio (by walk_at "ulen") (fun cdv A outer s H vs Q E hr0 hg0 h => ?_)
  have hr : Rm 1 (A.deeper (envOfC "_law_ratio" (defScope s_l_ratio) s.heap.objs.size f cdv)) := ⟨hr0, hg0⟩
  have nd : N_l_ratio.Nodup := sc_l_ratio.nd
  obtain ⟨n, d, rfl, bn, bd, d0, k⟩ := h
  refine ⟨_, (pss_consJ (ps_set (i := 2) nd rfl (Or.inl rfl) (pe_ifExp (pt_cmpR op_gt (pv 1) pe_int (nomark _)) (pe_c (E := En) c_l_gcd (hr.mono (by decide)) paN (pa_cons (pv 0) (pa_cons (pv 1) pa_nil))) (pe_op op_sub pe_int (pe_c (E := En) c_l_gcd (hr.mono (by decide)) paN (pa_cons (pv 0) (pa_cons (pv 1) pa_nil))))))
    (pss_one (ps_ret (pe_tup (pa_cons (pe_op op_uDiv (pv 0) (pv 2)) (pa_cons (pe_op op_uDiv (pv 1) (pv 2)) pa_nil)))))), ?_⟩
  walk_at "uk"
  walk_at "uj"
  refine s_seqJ (fun σ' H' => H = H' ∧ σ' = (L2.start N_l_ratio [.int n, .int d]).set 2 (some (.int (gN n d)))) ?_ (fun R hR => ?_)
  · rintro σ' _ ⟨rfl, rfl⟩
    walk_at "us"
    refine s_divI ⟨gN_ne d0, gN_log d0 bd⟩ ?_
    walk_at "us"
    refine s_divI ⟨gN_ne d0, gN_log d0 bd⟩ ?_
    walk_at "us"
    refine s_szN (Nat.le_of_ble_eq_true rfl) fun p hp => ?_
    exact k p _ (exN hp) upd_same
  walk_at "us"
  refine s_ite (fun hd => ?_) (fun hd => ?_)
  · walk_at "us"
    refine ⟨n, d, rfl, ?_⟩
    walk_at "us"
    exact hR _ _ ⟨rfl, by unfold gN; rw [if_pos hd]⟩
  · walk_at "us"
    refine ⟨n, d, rfl, ?_⟩
    walk_at "us"
    exact hR _ _ ⟨rfl, by unfold gN; rw [if_neg hd, Int.zero_sub]⟩
end

section
variable {P : Program} {w : World} {K : PySem.W.Frag} {mg : Str → Option Value} {base : Heap}
variable {cE cS cX cN cP cW cG cZ : Addr}
theorem ok_l_is_ratio (T : Tp P K mg cE cS cX cN cP cW cG cZ)
    (c_l_gcd : Cal P w K mg base 1 "_law_gcd" P_l_gcd [] (spGcd))
    (c_l_integer : Cal P w K mg base 1 "_law_integer" P_l_integer [] (spInteger K))
    {f : Addr} {fd : FuncData} {dvs : List V} (F : FunD K "_law_is_ratio" "_law_is_ratio" (defArgs s_l_is_ratio) (defBody s_l_is_ratio) (defScope s_l_is_ratio) dvs [] f fd) : FnG P w K mg base 2 f fd P_l_is_ratio (spIsRat K) := by
  refine fng F sc_l_is_ratio (by walk_at "ulen") (fun cdv A outer s H vs Q E hr0 hg0 h => ?_)
  have hr : Rm 1 (A.deeper (envOfC "_law_is_ratio" (defScope s_l_is_ratio) s.heap.objs.size f cdv)) := ⟨hr0, hg0⟩
  have nd : N_l_is_ratio.Nodup := sc_l_is_ratio.nd
  obtain ⟨v, n, d, rfl, ⟨p, rfl, hp⟩, L, k⟩ := h
  have D1 : Dp K H (.ref p) (.tuple [.int n, .int d]) := .tup hp (.cons (.int n) (.cons (.int d) .nil))
  have h1 := L.pos
  have h2 := L.one
  refine ⟨_, (pss_cons (ps_if (PW.pt (pw_or (pt_not (pt_val (pe_callB call_isi (by rfl) T.isinstance b_isinstance (pa_cons (pv 0) (pa_cons (pe_bltn (v := .ty "tuple") (by rfl) T.tuple b_tuple rfl) pa_nil))))) (pw_or1 (pt_cmpR (op_uNe hr.r.units) (pe_callB call_uLen (by rfl) T.len b_len (pa_cons (pv 0) pa_nil)) pe_int (nomark _))))) (pss_one (ps_ret pe_bl)) pss_nil)
    (pss_one (ps_ret (pe_and (pe_c (E := En) c_l_integer (hr.mono (by decide)) paN (pa_cons (pe_ix ix_seq (pv 0) pe_int (fun _ _ => rfl)) pa_nil)) (pe_and (pe_c (E := En) c_l_integer (hr.mono (by decide)) paN (pa_cons (pe_ix ix_seq (pv 0) pe_int (fun _ _ => rfl)) pa_nil)) (pe_and (pe_cmpR op_ge (pe_ix ix_seq (pv 0) pe_int (fun _ _ => rfl)) pe_int (nomark _)) (pe_one (pe_cmpR (op_uEq hr.r.units) (pe_c (E := En) c_l_gcd (hr.mono (by decide)) paN (pa_cons (pe_ix ix_seq (pv 0) pe_int (fun _ _ => rfl)) (pa_cons (pe_ix ix_seq (pv 0) pe_int (fun _ _ => rfl)) pa_nil))) pe_int (nomark _))))))))), ?_⟩
  walk_at "uk"
  walk_at "uz"
  refine s_isTup D1 ?_
  walk_at "uz"
  refine ⟨.int n, .int n, rfl, .int n, ?_⟩
  walk_at "uz"
  refine ⟨.int d, .int d, rfl, .int d, ?_⟩
  walk_at "uz"
  refine s_ite (fun e => ?_) (fun e => absurd h1 (by omega))
  walk_at "uz"
  refine ⟨n, d, rfl, ?_⟩
  rw [h2]
  walk_at "uz"
  exact k
end

section
variable {P : Program} {w : World} {K : PySem.W.Frag} {mg : Str → Option Value} {base : Heap}
variable {cE cS cX cN cP cW cG cZ : Addr}
theorem ok_l_plus (T : Tp P K mg cE cS cX cN cP cW cG cZ)
    (c_l_ratio : Cal P w K mg base 2 "_law_ratio" P_l_ratio [] (spLRatio))
    {f : Addr} {fd : FuncData} {dvs : List V} (F : FunD K "_law_plus" "_law_plus" (defArgs s_l_plus) (defBody s_l_plus) (defScope s_l_plus) dvs [] f fd) : FnG P w K mg base 3 f fd P_l_plus (spPlus K) := by
  refine fng F sc_l_plus (by walk_at "ulen") (fun cdv A outer s H vs Q E hr0 hg0 h => ?_)
  have hr : Rm 2 (A.deeper (envOfC "_law_plus" (defScope s_l_plus) s.heap.objs.size f cdv)) := ⟨hr0, hg0⟩
  have nd : N_l_plus.Nodup := sc_l_plus.nd
  obtain ⟨v, w, n1, d1, n2, d2, rfl, ⟨p1, rfl, h1⟩, ⟨p2, rfl, h2⟩, L1, L2, _, k⟩ := h
  obtain ⟨x1, x2, x3, x4⟩ : n1.natAbs ≤ big ∧ d1.natAbs ≤ big ∧ n2.natAbs ≤ big ∧ d2.natAbs ≤ big := ⟨L1.bn, L1.bd, L2.bn, L2.bd⟩
  refine ⟨_, (pss_one (ps_ret (pe_c (E := En) c_l_ratio (hr.mono (by decide)) paN (pa_cons (pe_op op_uAdd (pe_op op_uMul (pe_ix ix_seq (pv 0) pe_int (fun _ _ => rfl)) (pe_ix ix_seq (pv 1) pe_int (fun _ _ => rfl))) (pe_op op_uMul (pe_ix ix_seq (pv 1) pe_int (fun _ _ => rfl)) (pe_ix ix_seq (pv 0) pe_int (fun _ _ => rfl)))) (pa_cons (pe_op op_uMul (pe_ix ix_seq (pv 0) pe_int (fun _ _ => rfl)) (pe_ix ix_seq (pv 1) pe_int (fun _ _ => rfl))) pa_nil))))), ?_⟩
  walk_at "uk"
  walk_at "us"
  exact ⟨_, _, rfl, md_add L1.bn L2.bd L2.bn L1.bd, md_mul L1.bd L2.bd, ne_mul L1.pos L2.pos, k⟩
end

section
variable {P : Program} {w : World} {K : PySem.W.Frag} {mg : Str → Option Value} {base : Heap}
variable {cE cS cX cN cP cW cG cZ : Addr}
theorem ok_l_minus (T : Tp P K mg cE cS cX cN cP cW cG cZ)
    (c_l_ratio : Cal P w K mg base 2 "_law_ratio" P_l_ratio [] (spLRatio))
    {f : Addr} {fd : FuncData} {dvs : List V} (F : FunD K "_law_minus" "_law_minus" (defArgs s_l_minus) (defBody s_l_minus) (defScope s_l_minus) dvs [] f fd) : FnG P w K mg base 3 f fd P_l_minus (spMinus K) := by
  refine fng F sc_l_minus (by walk_at "ulen") (fun cdv A outer s H vs Q E hr0 hg0 h => ?_)
  have hr : Rm 2 (A.deeper (envOfC "_law_minus" (defScope s_l_minus) s.heap.objs.size f cdv)) := ⟨hr0, hg0⟩
  have nd : N_l_minus.Nodup := sc_l_minus.nd
  obtain ⟨v, w, n1, d1, n2, d2, rfl, ⟨p1, rfl, h1⟩, ⟨p2, rfl, h2⟩, L1, L2, _, k⟩ := h
  obtain ⟨x1, x2, x3, x4⟩ : n1.natAbs ≤ big ∧ d1.natAbs ≤ big ∧ n2.natAbs ≤ big ∧ d2.natAbs ≤ big := ⟨L1.bn, L1.bd, L2.bn, L2.bd⟩
  refine ⟨_, (pss_one (ps_ret (pe_c (E := En) c_l_ratio (hr.mono (by decide)) paN (pa_cons (pe_op op_sub (pe_op op_uMul (pe_ix ix_seq (pv 0) pe_int (fun _ _ => rfl)) (pe_ix ix_seq (pv 1) pe_int (fun _ _ => rfl))) (pe_op op_uMul (pe_ix ix_seq (pv 1) pe_int (fun _ _ => rfl)) (pe_ix ix_seq (pv 0) pe_int (fun _ _ => rfl)))) (pa_cons (pe_op op_uMul (pe_ix ix_seq (pv 0) pe_int (fun _ _ => rfl)) (pe_ix ix_seq (pv 1) pe_int (fun _ _ => rfl))) pa_nil))))), ?_⟩
  walk_at "uk"
  walk_at "us"
  exact ⟨_, _, rfl, md_sub L1.bn L2.bd L2.bn L1.bd, md_mul L1.bd L2.bd, ne_mul L1.pos L2.pos, k⟩
end

section
variable {P : Program} {w : World} {K : PySem.W.Frag} {mg : Str → Option Value} {base : Heap}
variable {cE cS cX cN cP cW cG cZ : Addr}
theorem ok_l_less (T : Tp P K mg cE cS cX cN cP cW cG cZ)
    {f : Addr} {fd : FuncData} {dvs : List V} (F : FunD K "_law_less" "_law_less" (defArgs s_l_less) (defBody s_l_less) (defScope s_l_less) dvs [] f fd) : FnG P w K mg base 1 f fd P_l_less (spLess K) := by
  refine fng F sc_l_less (by walk_at "ulen") (fun cdv A outer s H vs Q E hr0 hg0 h => ?_)
  have hr : Rm 0 (A.deeper (envOfC "_law_less" (defScope s_l_less) s.heap.objs.size f cdv)) := ⟨hr0, hg0⟩
  have nd : N_l_less.Nodup := sc_l_less.nd
  obtain ⟨v, w, n1, d1, n2, d2, rfl, ⟨p1, rfl, h1⟩, ⟨p2, rfl, h2⟩, L1, L2, k⟩ := h
  obtain ⟨x1, x2, x3, x4⟩ : n1.natAbs ≤ big ∧ d1.natAbs ≤ big ∧ n2.natAbs ≤ big ∧ d2.natAbs ≤ big := ⟨L1.bn, L1.bd, L2.bn, L2.bd⟩
  refine ⟨_, (pss_one (ps_ret (pe_cmpR op_lt (pe_op op_uMul (pe_ix ix_seq (pv 0) pe_int (fun _ _ => rfl)) (pe_ix ix_seq (pv 1) pe_int (fun _ _ => rfl))) (pe_op op_uMul (pe_ix ix_seq (pv 1) pe_int (fun _ _ => rfl)) (pe_ix ix_seq (pv 0) pe_int (fun _ _ => rfl))) (nomark _)))), ?_⟩
  walk_at "uk"
  walk_at "us"
  exact k
end

section
variable {P : Program} {w : World} {K : PySem.W.Frag} {mg : Str → Option Value} {base : Heap}
variable {cE cS cX cN cP cW cG cZ : Addr}
theorem ok_l_ground (T : Tp P K mg cE cS cX cN cP cW cG cZ)
    {f : Addr} {fd : FuncData} {dvs : List V} (F : FunD K "_law_ground" "_law_ground" (defArgs s_l_ground) (defBody s_l_ground) (defScope s_l_ground) dvs [] f fd) : FnG P w K mg base 1 f fd P_l_ground (spGround) := by
  refine fng F sc_l_ground (by walk_at "ulen") (fun cdv A outer s H vs Q E hr0 hg0 h => ?_)
  have hr : Rm 0 (A.deeper (envOfC "_law_ground" (defScope s_l_ground) s.heap.objs.size f cdv)) := ⟨hr0, hg0⟩
  have nd : N_l_ground.Nodup := sc_l_ground.nd
  obtain ⟨rfl, k⟩ := h
  refine ⟨_, (pss_one (ps_ret (pe_tup (pa_cons pe_str (pa_cons pe_int (pa_cons pe_int pa_nil)))))), ?_⟩
  walk_at "uk"
  walk_at "uz"
  refine s_tupE ?_
  walk_at "uz"
  refine s_szN (Nat.le_of_ble_eq_true rfl) fun t nt => s_nw nt fun H1 e1 f1 => ?_
  exact k _ _ e1 ⟨t, rfl, f1⟩
end

section
variable {P : Program} {w : World} {K : PySem.W.Frag} {mg : Str → Option Value} {base : Heap}
variable {cE cS cX cN cP cW cG cZ : Addr}
theorem ok_is_integer (T : Tp P K mg cE cS cX cN cP cW cG cZ)
    {f : Addr} {fd : FuncData} {dvs : List V} (F : FunD K "is_integer" "is_integer" (defArgs s_is_integer) (defBody s_is_integer) (defScope s_is_integer) dvs [] f fd) : FnG P w K mg base 1 f fd P_is_integer (spIsInteger K) := by
  refine fng F sc_is_integer (by walk_at "ulen") (fun cdv A outer s H vs Q E hr0 hg0 h => ?_)
  have hr : Rm 0 (A.deeper (envOfC "is_integer" (defScope s_is_integer) s.heap.objs.size f cdv)) := ⟨hr0, hg0⟩
  have nd : N_is_integer.Nodup := sc_is_integer.nd
  obtain ⟨v, d, lo, l, hi, hh, rfl, hd, hl, hl2, k⟩ := h
  refine ⟨_, (pss_cons (ps_if (PW.pt (pw_or (pt_not (pt_val (pe_callB call_isi (by rfl) T.isinstance b_isinstance (pa_cons (pv 0) (pa_cons (pe_bltn (v := .ty "int") (by rfl) T.int b_int rfl) pa_nil))))) (pw_or1 (pt_val (pe_callB call_isi (by rfl) T.isinstance b_isinstance (pa_cons (pv 0) (pa_cons (pe_bltn (v := .ty "bool") (by rfl) T.bool b_bool rfl) pa_nil))))))) (pss_one (ps_ret pe_bl)) pss_nil)
    (pss_one (ps_ret (pe_and (pe_or (pe_cmpR op_uIsN (pv 1) pe_non (nomark _)) (pe_one (pe_cmpR op_le (pv 1) (pv 0) (nomark _)))) (pe_one (pe_or (pe_cmpR op_uIsN (pv 2) pe_non (nomark _)) (pe_one (pe_cmpR op_le (pv 0) (pv 2) (nomark _))))))))), ?_⟩
  walk_at "uk"
  walk_at "us"
  refine s_isInt hd ?_
  cases hd with
  | int i =>
    walk_at "ua"
    refine s_isBool (.int i) ?_
    have fin : ∀ (a : Bool) (e : isIntegerD (.int i) l hh = a), Q (.bl a) H := fun a e => by rw [← e]; exact k
    rcases hl with ⟨rfl, rfl⟩ | ⟨j, rfl, rfl⟩
    · rcases hl2 with ⟨rfl, rfl⟩ | ⟨j2, rfl, rfl⟩
      · walk_at "ua"
        exact k
      · walk_at "ua"
        exact fin _ (by simp [isIntegerD])
    · rcases hl2 with ⟨rfl, rfl⟩ | ⟨j2, rfl, rfl⟩
      · walk_at "ua"
        refine s_itB (fun z => ?_) (fun z => ?_)
        · walk_at "ua"
          exact fin _ (by simpa [isIntegerD] using z)
        · walk_at "ua"
          exact fin _ (by simpa [isIntegerD] using z)
      · walk_at "ua"
        refine s_itB (fun z => ?_) (fun z => ?_)
        · walk_at "ua"
          exact fin _ (by show (decide (j ≤ i) && decide (i ≤ j2)) = _; rw [z]; exact Bool.true_and _)
        · walk_at "ua"
          exact fin _ (by show (decide (j ≤ i) && decide (i ≤ j2)) = false; rw [z]; rfl)
  | bl b =>
    walk_at "ua"
    refine s_isBool (.bl b) ?_
    walk_at "ua"
    exact k
  | _ =>
    walk_at "ua"
    exact k
end

section
variable {P : Program} {w : World} {K : PySem.W.Frag} {mg : Str → Option Value} {base : Heap}
variable {cE cS cX cN cP cW cG cZ : Addr}
theorem ok_ratio (T : Tp P K mg cE cS cX cN cP cW cG cZ)
    {f : Addr} {fd : FuncData} {dvs : List V} (F : FunD K "ratio" "ratio" (defArgs s_ratio) (defBody s_ratio) (defScope s_ratio) dvs [] f fd) : FnG P w K mg base 1 f fd P_ratio (spRatio cN) := by
  refine fng F sc_ratio (by walk_at "ulen") (fun cdv A outer s H vs Q E hr0 hg0 h => ?_)
  have hr : Rm 0 (A.deeper (envOfC "ratio" (defScope s_ratio) s.heap.objs.size f cdv)) := ⟨hr0, hg0⟩
  have nd : N_ratio.Nodup := sc_ratio.nd
  have tk : Takes (cxOf (L2.CX P w) P w K mg base N_ratio "ratio" (defScope s_ratio) f cdv A outer s H E) (fun cls d _ H => E cls d H) := takes_of rfl rfl rfl rfl
  obtain ⟨n, d, rfl, bn, bd, k, kx⟩ := h
  refine ⟨_, (pss_cons (ps_if (pt_cmpR (op_uEq hr.r.units) (pv 1) pe_int (nomark _)) (pss_one (ps_raiseX rfl T.x_Nought hr.r tk (by decide) (by decide) (pa_cons (pv 0) pa_nil))) pss_nil)
    (pss_cons (ps_set (i := 2) nd rfl (Or.inl rfl) (pe_callBfun call_uGcd (by rfl) T.g_gcd (pa_cons (pv 0) (pa_cons (pv 1) pa_nil))))
    (pss_consJ (ps_if (pt_cmpR op_lt (pv 1) pe_int (nomark _)) (pss_one (ps_set (i := 2) nd rfl (Or.inl rfl) (pe_un un_neg (pv 2)))) pss_nil)
    (pss_one (ps_ret (pe_tup (pa_cons (pe_op op_uDiv (pv 0) (pv 2)) (pa_cons (pe_op op_uDiv (pv 1) (pv 2)) pa_nil)))))))), ?_⟩
  walk_at "uk"
  walk_at "us"
  refine s_ite (fun hz => ?_) (fun hz => ?_)
  · walk_at "us"
    refine ⟨rfl, fun e he => ?_⟩
    exact kx hz e _ (exN he) upd_same
  walk_at "uj"
  refine s_seqJ (fun σ' H' => H = H' ∧ σ' = (L2.start N_ratio [.int n, .int d]).set 2 (some (.int (gN n d)))) ?_ (fun R hR => ?_)
  · rintro σ' _ ⟨rfl, rfl⟩
    walk_at "us"
    refine s_divI ⟨gN_ne hz, gN_log hz bd⟩ ?_
    walk_at "us"
    refine s_divI ⟨gN_ne hz, gN_log hz bd⟩ ?_
    walk_at "us"
    refine s_szN (Nat.le_of_ble_eq_true rfl) fun p hp => ?_
    exact k hz p _ (exN hp) upd_same
  walk_at "us"
  refine s_ite (fun hd => ?_) (fun hd => ?_)
  · walk_at "us"
    exact hR _ _ ⟨rfl, by unfold gN; rw [if_neg (by omega)]; rfl⟩
  · walk_at "us"
    exact hR _ _ ⟨rfl, by unfold gN; rw [if_pos (by omega)]⟩
end

theorem dpa_len {K : PySem.W.Frag} {H : Hp} : ∀ {xs : List V} {ds : List PyData}, DpAll K H xs ds → xs.length = ds.length
  | _, _, .nil => rfl
  | _, _, .cons _ r => congrArg (· + 1) (dpa_len r)
theorem isRat_ne {ds : List PyData} (h : ds.length ≠ 2) : isRatD (.tuple ds) = false := by
  unfold isRatD
  split
  · rename_i n e q
    cases q
    exact absurd rfl h
  · rfl
section
variable {P : Program} {w : World} {K : PySem.W.Frag} {mg : Str → Option Value} {base : Heap}
variable {cE cS cX cN cP cW cG cZ : Addr}
theorem ok_is_ratio (T : Tp P K mg cE cS cX cN cP cW cG cZ)
    (c_is_integer_1 : Cal P w K mg base 1 "is_integer" P_is_integer [.non, .non] (spIsInteger K))
    (c_is_integer_2 : Cal P w K mg base 1 "is_integer" P_is_integer [.non] (spIsInteger K))
    {f : Addr} {fd : FuncData} {dvs : List V} (F : FunD K "is_ratio" "is_ratio" (defArgs s_is_ratio) (defBody s_is_ratio) (defScope s_is_ratio) dvs [] f fd) : FnG P w K mg base 2 f fd P_is_ratio (spIsRatio K) := by
  refine fng F sc_is_ratio (by walk_at "ulen") (fun cdv A outer s H vs Q E hr0 hg0 h => ?_)
  have hr : Rm 1 (A.deeper (envOfC "is_ratio" (defScope s_is_ratio) s.heap.objs.size f cdv)) := ⟨hr0, hg0⟩
  have nd : N_is_ratio.Nodup := sc_is_ratio.nd
  obtain ⟨v, d, rfl, hd, k⟩ := h
  refine ⟨_, (pss_cons (ps_if (PW.pt (pw_or (pt_not (pt_val (pe_callB call_isi (by rfl) T.isinstance b_isinstance (pa_cons (pv 0) (pa_cons (pe_bltn (v := .ty "tuple") (by rfl) T.tuple b_tuple rfl) pa_nil))))) (pw_or1 (pt_cmpR (op_uNe hr.r.units) (pe_callB call_uLen (by rfl) T.len b_len (pa_cons (pv 0) pa_nil)) pe_int (nomark _))))) (pss_one (ps_ret pe_bl)) pss_nil)
    (pss_cons (ps_asg (pv 0) (pg_tup rfl (pgs_cons (pg_name (i := 1) nd rfl (Or.inl rfl)) (pgs_cons (pg_name (i := 2) nd rfl (Or.inl rfl)) pgs_nil))))
    (pss_one (ps_ret (pe_and (pe_c (E := En) c_is_integer_1 (hr.mono (by decide)) paN (pa_cons (pv 1) pa_nil)) (pe_and (pe_c (E := En) c_is_integer_2 (hr.mono (by decide)) paN (pa_cons (pv 2) (pa_cons pe_int pa_nil))) (pe_one (pe_cmpR (op_uEq hr.r.units) (pe_callBfun call_uGcd (by rfl) T.g_gcd (pa_cons (pv 1) (pa_cons (pv 2) pa_nil))) pe_int (nomark _))))))))), ?_⟩
  walk_at "uk"
  walk_at "us"
  refine s_isTup hd ?_
  cases hd with
  | @tup a xs ds hs ha =>
    walk_at "ua"
    by_cases e2 : xs.length = 2
    · obtain ⟨x, y, rfl⟩ : ∃ x y, xs = [x, y] := by
        match xs, e2 with
        | [x, y], _ => exact ⟨x, y, rfl⟩
      cases ha with
      | @cons _ _ dx _ hx hr' =>
        cases hr' with
        | @cons _ _ dy _ hy hn =>
          cases hn
          walk_at "ua"
          refine s_gt hs rfl ?_
          walk_at "ua"
          refine ⟨x, dx, .non, none, .non, none, rfl, hx, .inl ⟨rfl, rfl⟩, .inl ⟨rfl, rfl⟩, ?_⟩
          walk_at "us"
          refine s_itB (fun z1 => ?_) (fun z1 => ?_)
          · walk_at "us"
            refine ⟨y, dy, .int 1, some 1, .non, none, rfl, hy, .inr ⟨1, rfl, rfl⟩, .inl ⟨rfl, rfl⟩, ?_⟩
            walk_at "us"
            refine s_itB (fun z2 => ?_) (fun z2 => ?_)
            · cases hx with
              | int n =>
                cases hy with
                | int e =>
                  walk_at "us"
                  rw [show isRatD (.tuple [.int n, .int e]) = (decide (1 ≤ e) && decide (Int.gcd n e = 1)) from rfl, show decide (1 ≤ e) = true from (Bool.and_eq_true _ _ ▸ z2 : decide (1 ≤ e) = true ∧ true = true).1, Bool.true_and] at k
                  have q : decide ((Int.gcd n e : Int) = 1) = decide (Int.gcd n e = 1) := by
                    by_cases w : Int.gcd n e = 1 <;> simp [w] <;> omega
                  rw [q]
                  exact k
                | _ => cases z2
              | _ => cases z1
            · walk_at "us"
              have q : isRatD (.tuple [dx, dy]) = false := by
                cases hx with
                | int n =>
                  cases hy with
                  | int e => rw [show isRatD (.tuple [.int n, .int e]) = (decide (1 ≤ e) && decide (Int.gcd n e = 1)) from rfl, show decide (1 ≤ e) = false from (Bool.and_true _).symm.trans z2, Bool.false_and]
                  | _ => rfl
                | _ => rfl
              rw [q] at k
              exact k
          · walk_at "us"
            have q : isRatD (.tuple [dx, dy]) = false := by
              cases hx with
              | int n => cases z1
              | _ => rfl
            rw [q] at k
            exact k
    · rw [decide_eq_false (by omega)]
      walk_at "ua"
      rw [isRat_ne (by rw [← dpa_len ha]; exact e2)] at k
      exact k
  | _ =>
    walk_at "ua"
    exact k
end

theorem rat_one_minus (a b : Int) : rN (a * 1) (1 * 1) = a ∧ rD a (1 * 1) = 1 := by
  have e : gN (a * 1) (1 * 1) = 1 := by unfold gN; rw [if_pos (by decide)]; simp
  have e2 : gN a (1 * 1) = 1 := by unfold gN; rw [if_pos (by decide)]; simp
  refine ⟨?_, ?_⟩
  · unfold rN; rw [e]; simp
  · unfold rD; rw [e2]; simp
section
variable {P : Program} {w : World} {K : PySem.W.Frag} {mg : Str → Option Value} {base : Heap}
variable {cE cS cX cN cP cW cG cZ : Addr}
theorem ok_minus (T : Tp P K mg cE cS cX cN cP cW cG cZ)
    (c_ratio_2 : Cal P w K mg base 1 "ratio" P_ratio [] (spRatio cN))
    {f : Addr} {fd : FuncData} {dvs : List V} (F : FunD K "minus" "minus" (defArgs s_minus) (defBody s_minus) (defScope s_minus) dvs [] f fd) : FnG P w K mg base 2 f fd P_minus (spMinus K) := by
  refine fng F sc_minus (by walk_at "ulen") (fun cdv A outer s H vs Q E hr0 hg0 h => ?_)
  have hr : Rm 1 (A.deeper (envOfC "minus" (defScope s_minus) s.heap.objs.size f cdv)) := ⟨hr0, hg0⟩
  have nd : N_minus.Nodup := sc_minus.nd
  obtain ⟨v, w, n1, d1, n2, d2, rfl, ⟨p1, rfl, h1⟩, ⟨p2, rfl, h2⟩, L1, L2, _, k⟩ := h
  obtain ⟨x1, x2, x3, x4⟩ : n1.natAbs ≤ big ∧ d1.natAbs ≤ big ∧ n2.natAbs ≤ big ∧ d2.natAbs ≤ big := ⟨L1.bn, L1.bd, L2.bn, L2.bd⟩
  refine ⟨_, (pss_cons (ps_if (PW.pt (pw_and (pt_cmpR (op_uEq hr.r.units) (pe_ix ix_seq (pv 0) pe_int (fun _ _ => rfl)) pe_int (nomark _)) (pw_and1 (pt_cmpR (op_uEq hr.r.units) (pe_ix ix_seq (pv 1) pe_int (fun _ _ => rfl)) pe_int (nomark _))))) (pss_one (ps_ret (pe_tup (pa_cons (pe_op op_sub (pe_ix ix_seq (pv 0) pe_int (fun _ _ => rfl)) (pe_ix ix_seq (pv 1) pe_int (fun _ _ => rfl))) (pa_cons pe_int pa_nil))))) pss_nil)
    (pss_one (ps_ret (pe_c (E := En) c_ratio_2 (hr.mono (by decide)) paN (pa_cons (pe_op op_sub (pe_op op_uMul (pe_ix ix_seq (pv 0) pe_int (fun _ _ => rfl)) (pe_ix ix_seq (pv 1) pe_int (fun _ _ => rfl))) (pe_op op_uMul (pe_ix ix_seq (pv 1) pe_int (fun _ _ => rfl)) (pe_ix ix_seq (pv 0) pe_int (fun _ _ => rfl)))) (pa_cons (pe_op op_uMul (pe_ix ix_seq (pv 0) pe_int (fun _ _ => rfl)) (pe_ix ix_seq (pv 1) pe_int (fun _ _ => rfl))) pa_nil)))))), ?_⟩
  walk_at "uk"
  walk_at "us"
  have fin : ¬ (d1 = 1 ∧ d2 = 1) → True := fun _ => trivial
  refine s_ite (fun e1 => ?_) (fun e1 => ?_)
  · walk_at "us"
    refine s_ite (fun e2 => ?_) (fun e2 => ?_)
    · subst e1 e2
      walk_at "us"
      refine s_szN (Nat.le_of_ble_eq_true rfl) fun p hp => ?_
      have r := rat_one_minus (n1 - n2) 0
      refine k p _ (exN hp) ?_
      rw [upd_same]
      have q : rN (n1 - n2) (1 * 1) = n1 - n2 := by have := r.1; rwa [Int.mul_one] at this
      simp only [Int.mul_one] at q r ⊢
      first | (rw [q, r.2]) | (simp only [q, r.2])
    · walk_at "us"
      exact ⟨_, _, rfl, md_sub L1.bn L2.bd L2.bn L1.bd, md_mul L1.bd L2.bd, fun _ => k, fun z => absurd z (ne_mul L1.pos L2.pos)⟩
  · walk_at "us"
    exact ⟨_, _, rfl, md_sub L1.bn L2.bd L2.bn L1.bd, md_mul L1.bd L2.bd, fun _ => k, fun z => absurd z (ne_mul L1.pos L2.pos)⟩
end

section
variable {P : Program} {w : World} {K : PySem.W.Frag} {mg : Str → Option Value} {base : Heap}
variable {cE cS cX cN cP cW cG cZ : Addr}
theorem ok_compare (T : Tp P K mg cE cS cX cN cP cW cG cZ)
    {f : Addr} {fd : FuncData} {dvs : List V} (F : FunD K "compare" "compare" (defArgs s_compare) (defBody s_compare) (defScope s_compare) dvs [] f fd) : FnG P w K mg base 1 f fd P_compare (spCompare K) := by
  refine fng F sc_compare (by walk_at "ulen") (fun cdv A outer s H vs Q E hr0 hg0 h => ?_)
  have hr : Rm 0 (A.deeper (envOfC "compare" (defScope s_compare) s.heap.objs.size f cdv)) := ⟨hr0, hg0⟩
  have nd : N_compare.Nodup := sc_compare.nd
  obtain ⟨v, w, n1, d1, n2, d2, rfl, ⟨p1, rfl, h1⟩, ⟨p2, rfl, h2⟩, L1, L2, k⟩ := h
  obtain ⟨x1, x2, x3, x4⟩ : n1.natAbs ≤ big ∧ d1.natAbs ≤ big ∧ n2.natAbs ≤ big ∧ d2.natAbs ≤ big := ⟨L1.bn, L1.bd, L2.bn, L2.bd⟩
  refine ⟨_, (pss_cons (ps_set (i := 2) nd rfl (Or.inl rfl) (pe_op op_uMul (pe_ix ix_seq (pv 0) pe_int (fun _ _ => rfl)) (pe_ix ix_seq (pv 1) pe_int (fun _ _ => rfl))))
    (pss_cons (ps_set (i := 3) nd rfl (Or.inl rfl) (pe_op op_uMul (pe_ix ix_seq (pv 1) pe_int (fun _ _ => rfl)) (pe_ix ix_seq (pv 0) pe_int (fun _ _ => rfl))))
    (pss_cons (ps_if (pt_cmpR op_lt (pv 2) (pv 3) (nomark _)) (pss_one (ps_ret (pe_un un_neg pe_int))) pss_nil)
    (pss_cons (ps_if (pt_cmpR op_gt (pv 2) (pv 3) (nomark _)) (pss_one (ps_ret pe_int)) pss_nil)
    (pss_one (ps_ret pe_int)))))), ?_⟩
  walk_at "uk"
  walk_at "us"
  refine s_ite (fun hz => ?_) (fun hz => ?_)
  · walk_at "us"
    rw [if_pos hz] at k
    exact k
  walk_at "us"
  rw [if_neg hz] at k
  refine s_ite (fun hy => ?_) (fun hy => ?_)
  · walk_at "us"
    rw [if_pos hy] at k
    exact k
  walk_at "us"
  rw [if_neg hy] at k
  exact k
end

section
variable {P : Program} {w : World} {K : PySem.W.Frag} {mg : Str → Option Value} {base : Heap}
variable {cE cS cX cN cP cW cG cZ : Addr}
theorem ok_is_spot (T : Tp P K mg cE cS cX cN cP cW cG cZ)
    (c_is_integer_1 : Cal P w K mg base 1 "is_integer" P_is_integer [.non, .non] (spIsInteger K))
    {f : Addr} {fd : FuncData} {dvs : List V} (F : FunD K "is_spot" "is_spot" (defArgs s_is_spot) (defBody s_is_spot) (defScope s_is_spot) dvs [] f fd) : FnG P w K mg base 2 f fd P_is_spot (spIsSpot K) := by
  refine fng F sc_is_spot (by walk_at "ulen") (fun cdv A outer s H vs Q E hr0 hg0 h => ?_)
  have hr : Rm 1 (A.deeper (envOfC "is_spot" (defScope s_is_spot) s.heap.objs.size f cdv)) := ⟨hr0, hg0⟩
  have nd : N_is_spot.Nodup := sc_is_spot.nd
  obtain ⟨v, d, rfl, hd, k⟩ := h
  refine ⟨_, (pss_cons (ps_if (PW.pt (pw_or (pt_not (pt_val (pe_callB call_isi (by rfl) T.isinstance b_isinstance (pa_cons (pv 0) (pa_cons (pe_bltn (v := .ty "tuple") (by rfl) T.tuple b_tuple rfl) pa_nil))))) (pw_or1 (pt_cmpR (op_uNe hr.r.units) (pe_callB call_uLen (by rfl) T.len b_len (pa_cons (pv 0) pa_nil)) pe_int (nomark _))))) (pss_one (ps_ret pe_bl)) pss_nil)
    (pss_one (ps_ret (pe_and (pe_callB call_isi (by rfl) T.isinstance b_isinstance (pa_cons (pe_ix ix_seq (pv 0) pe_int (fun _ _ => rfl)) (pa_cons (pe_bltn (v := .ty "str") (by rfl) T.str b_str rfl) pa_nil))) (pe_and (pe_c (E := En) c_is_integer_1 (hr.mono (by decide)) paN (pa_cons (pe_ix ix_seq (pv 0) pe_int (fun _ _ => rfl)) pa_nil)) (pe_one (pe_c (E := En) c_is_integer_1 (hr.mono (by decide)) paN (pa_cons (pe_ix ix_seq (pv 0) pe_int (fun _ _ => rfl)) pa_nil)))))))), ?_⟩
  cases d with
  | tuple ds =>
    have hd0 := hd
    cases hd with
    | @tup a xs _ hs ha =>
      walk_at "uk"
      walk_at "uz"
      refine s_isTup hd0 ?_
      walk_at "uz"
      have hl := dpa_length ha
      refine s_iteN (fun e => ?_) (fun e => ?_)
      · walk_at "uz"
        rw [show isSpotD (.tuple ds) = false by
          match ds, hl with
          | [_, _, _], hl => exact absurd (by rw [hl]; rfl) e
          | [], _ => rfl
          | [_], _ => rfl
          | [_, _], _ => rfl
          | _ :: _ :: _ :: _ :: _, _ => rfl] at k
        exact k
      · match ds, xs, ha, hl with
        | [d0, d1, d2], [x0, x1, x2], .cons h0 (.cons h1 (.cons h2 .nil)), _ =>
          have k' : Q (.bl (isStrD d0 && (isIntegerD d1 none none && isIntegerD d2 none none))) H := k
          walk_at "uz"
          refine s_isStr h0 ?_
          refine s_bl ?_
          refine s_itB (fun c0 => ?_) (fun c0 => ?_)
          · rw [c0] at k'
            walk_at "uz"
            refine ⟨x1, d1, .non, none, .non, none, rfl, h1, .inl ⟨rfl, rfl⟩, .inl ⟨rfl, rfl⟩, ?_⟩
            refine s_bl ?_
            refine s_itB (fun c1 => ?_) (fun c1 => ?_)
            · rw [c1] at k'
              walk_at "uz"
              exact ⟨x2, d2, .non, none, .non, none, rfl, h2, .inl ⟨rfl, rfl⟩, .inl ⟨rfl, rfl⟩, k'⟩
            · rw [c1] at k'
              exact k'
          · rw [c0] at k'
            exact k'
        | [], _, _, hl => rw [hl] at e; cases e
        | [_], _, _, hl => rw [hl] at e; cases e
        | [_, _], _, _, hl => rw [hl] at e; cases e
        | _ :: _ :: _ :: _ :: r, _, _, hl => rw [hl] at e; simp at e; omega
  | _ =>
    walk_at "uk"
    walk_at "uz"
    refine s_isTup hd ?_
    walk_at "uz"
    exact k
end

theorem dpa_2 {K : PySem.W.Frag} {H : Hp} {xs : List V} {ds : List PyData} (h : DpAll K H xs ds) (l : xs.length = 2) : ∃ x y d e, xs = [x, y] ∧ ds = [d, e] ∧ Dp K H x d ∧ Dp K H y e := by
  match xs, ds, h, l with
  | [x, y], _, .cons h1 (.cons h2 .nil), _ => exact ⟨x, y, _, _, rfl, rfl, h1, h2⟩
theorem pairD_no {a b : PyData} (h : (isSpotD a && isRatD b) = false) : isPairD (.tuple [a, b]) = false := h
theorem gr_pair {z : Spot} {r : Rat} : PyData.eqv (.tuple [spotD z, ratD r]) (.tuple [spotD gr, ratD 0]) = decide ((z, r) = (gr, (0 : Rat))) := by
  rw [PyData.eqv, PyData.eqvAll, PyData.eqvAll, PyData.eqvAll, spot_eqv, rat_eqv]
  by_cases a : z = gr <;> by_cases b : r = 0 <;> simp [a, b]
theorem gr_pair_sh {z : Spot} {r : Rat} (h : SpOk z) : SeqAt.shaped (.tuple [spotD z, ratD r]) = true := lay_sh (lay_term (t := (z, r)) h) (by decide)
section
variable {P : Program} {w : World} {K : PySem.W.Frag} {mg : Str → Option Value} {base : Heap}
variable {cE cS cX cN cP cW cG cZ : Addr}
theorem ok_table_of_pairs (T : Tp P K mg cE cS cX cN cP cW cG cZ)
    (c_is_ratio : Cal P w K mg base 2 "is_ratio" P_is_ratio [] (spIsRatio K))
    (c_is_spot : Cal P w K mg base 2 "is_spot" P_is_spot [] (spIsSpot K))
    {f : Addr} {fd : FuncData} {dvs : List V} (F : FunD K "table_of_pairs" "table_of_pairs" (defArgs s_table_of_pairs) (defBody s_table_of_pairs) (defScope s_table_of_pairs) dvs [] f fd) : FnG P w K mg base 3 f fd P_table_of_pairs (spTableB K cX) := by
  refine fng F sc_table_of_pairs (by walk_at "ulen") (fun cdv A outer s H vs Q E hr0 hg0 h => ?_)
  have hr : Rm 2 (A.deeper (envOfC "table_of_pairs" (defScope s_table_of_pairs) s.heap.objs.size f cdv)) := ⟨hr0, hg0⟩
  have nd : N_table_of_pairs.Nodup := sc_table_of_pairs.nd
  have tk : Takes (cxOf (L2.CX P w) P w K mg base N_table_of_pairs "table_of_pairs" (defScope s_table_of_pairs) f cdv A outer s H E) (fun cls d _ H => E cls d H) := takes_of rfl rfl rfl rfl
  have po : PassesOwn (model P w) (cxOf (L2.CX P w) P w K mg base N_table_of_pairs "table_of_pairs" (defScope s_table_of_pairs) f cdv A outer s H E).A (cxOf (L2.CX P w) P w K mg base N_table_of_pairs "table_of_pairs" (defScope s_table_of_pairs) f cdv A outer s H E).env (cxOf (L2.CX P w) P w K mg base N_table_of_pairs "table_of_pairs" (defScope s_table_of_pairs) f cdv A outer s H E).xe := passes_of rfl
  obtain ⟨p, us, ts, rfl, hp, h⟩ := h
  have nle : ts.length ≤ us.length := by
    rcases h with ⟨a, _⟩ | ⟨⟨_, a, _⟩, _⟩
    · exact Nat.le_of_eq a.len.symm
    · have := a.len; rw [List.length_take] at this; omega
  have ht : TermsAt K H (us.take ts.length) ts := by
    rcases h with ⟨a, _⟩ | ⟨⟨_, a, _⟩, _⟩
    · rw [← a.len, List.take_length]; exact a
    · exact a
  have nd0 : (ts.map fun t => t.1).Nodup := h.elim (fun ⟨_, G, _⟩ => G.nd) fun ⟨⟨_, _, a, _⟩, _⟩ => a
  have g0 : ts ≠ [] → ts[0]? = some (gr, 0) := h.elim (fun ⟨_, G, _⟩ _ => G.g) fun ⟨⟨_, _, _, a, _⟩, _⟩ => a
  have ok0 : ∀ t ∈ ts, SpOk t.1 := h.elim (fun ⟨_, G, _⟩ t m => (G.ok t m).ok) fun ⟨⟨_, _, _, _, a, _⟩, _⟩ => a
  have l60 : us.length ≤ 60 := by
    rcases h with ⟨a, G, _⟩ | ⟨⟨a, _⟩, _⟩
    · have := G.len; have := a.len; omega
    · exact a
  generalize hzs : (ts.map fun t => t.1) = zs at nd0 h
  have zl : zs.length = ts.length := by rw [← hzs, List.length_map]
  generalize hrs : (ts.map fun t => ratP t.2) = rs at h
  have rl : rs.length = ts.length := by rw [← hrs, List.length_map]
  refine ⟨_, (pss_cons (ps_set (i := 1) nd rfl (Or.inl rfl) pe_dnewT)
    (pss_cons (ps_set (i := 2) nd rfl (Or.inl rfl) pe_int)
    (pss_cons (ps_for po rfl (Zx.pi_lt (pv 0)) (pg_name (i := 3) nd rfl (Or.inl rfl))
    (pss_cons (ps_if (PW.pt (pw_or (pt_not (pt_val (pe_callB call_isi (by rfl) T.isinstance b_isinstance (pa_cons (pv 3) (pa_cons (pe_bltn (v := .ty "tuple") (by rfl) T.tuple b_tuple rfl) pa_nil))))) (pw_or (pt_cmpR (op_uNe hr.r.units) (pe_callB call_uLen (by rfl) T.len b_len (pa_cons (pv 3) pa_nil)) pe_int (nomark _)) (pw_or (pt_not (pt_val (pe_c (E := En) c_is_spot (hr.mono (by decide)) paN (pa_cons (pe_ix ix_seq (pv 3) pe_int (fun _ _ => rfl)) pa_nil)))) (pw_or1 (pt_not (pt_val (pe_c (E := En) c_is_ratio (hr.mono (by decide)) paN (pa_cons (pe_ix ix_seq (pv 3) pe_int (fun _ _ => rfl)) pa_nil))))))))) (pss_one (ps_raiseX rfl T.x_BadWorld hr.r tk (by decide) (by decide) (pa_cons (pv 2) pa_nil))) pss_nil)
    (pss_cons (ps_if (PW.pt (pw_or (pt_cmp (pc_din (hu_of hr.r) (pe_ix ix_seq (pv 3) pe_int (fun _ _ => rfl)) (pv 1))) (pw_or1 (PW.pt (pw_and (pt_cmpR (op_uEq hr.r.units) (pv 2) pe_int (nomark _)) (pw_and1 (pt_cmpR (op_uNe hr.r.units) (pv 3) (pe_tup (pa_cons (pe_gR T.g_GROUND) (pa_cons (pe_gR T.g_ZERO) pa_nil))) (nomark _)))))))) (pss_one (ps_raiseX rfl T.x_BadWorld hr.r tk (by decide) (by decide) (pa_cons (pv 2) pa_nil))) pss_nil)
    (pss_cons (ps_dput (hu_of hr.r) (pv 1) (pe_ix ix_seq (pv 3) pe_int (fun _ _ => rfl)) (pe_ix ix_seq (pv 3) pe_int (fun _ _ => rfl)) rfl)
    (pss_one (ps_set (i := 2) nd rfl (Or.inl rfl) (pe_op op_uAdd (pv 2) pe_int)))))))
    (pss_cons (ps_if (pt_cmpR (op_uEq hr.r.units) (pv 2) pe_int (nomark _)) (pss_one (ps_raiseX rfl T.x_BadWorld hr.r tk (by decide) (by decide) (pa_cons pe_int pa_nil))) pss_nil)
    (pss_one (ps_ret (pv 1))))))), ?_⟩
  walk_at "uk"
  walk_at "uz"
  refine fun d nd' => s_nw nd' fun H1 e1 f1 => ?_
  walk_at "uz"
  refine loopA (hp.kx e1.kx) (fun i σ' H' => (Ex H H' ∧ Kx K H1 H' ∧ ∀ a o, a ≠ d → H1 a = some o → H' a = some o) ∧ i ≤ ts.length ∧ ∃ (ws : List V) (o3 : Option V), H' d = some (.dT (tabW (zs.take i) ws)) ∧ ws.length = i ∧ RatsX K H ws (rs.take i) ∧ σ' = [some (.ref p), some (.ref d), some (.int (i : Nat)), o3]) ⟨⟨e1, (exR H1).kx, fun _ _ _ z => z⟩, Nat.zero_le _, [], none, f1, rfl, ⟨rfl, fun i v r a => by cases a⟩, rfl⟩ (fun i σ' H' h => ⟨fun x => (h.1.2.1 p us).1 x, fun x => (h.1.2.1 p us).2 x⟩) ?_ ?_
  rotate_left
  · rintro i x σ' H2 hx ⟨⟨e2, kx2, m2⟩, il, ws, o3, f2, wl, hr, rfl⟩
    have xl := (List.getElem?_eq_some_iff.mp hx).1
    have tl : (zs.take i).length = i := by rw [List.length_take]; omega
    by_cases c : i < ts.length
    · obtain ⟨t, hti⟩ : ∃ t, ts[i]? = some t := ⟨_, List.getElem?_eq_getElem c⟩
      have hz : zs[i]? = some t.1 := by rw [← hzs, List.getElem?_map, hti]; rfl
      have hrr : rs[i]? = some (ratP t.2) := by rw [← hrs, List.getElem?_map, hti]; rfl
      obtain ⟨tq, sa, fa, rfl, htq0, ⟨sq, rfl, hsq0⟩, hfa0⟩ := ht.at_ i x t (by rw [List.getElem?_take, if_pos c]; exact hx) hti
      have htq := Ex.st htq0 e2
      have hsq := e2 _ _ hsq0
      have hfa := rq_ex hfa0 e2
      walk_at "uz"
      refine s_isTupQ htq ?_
      walk_at "uz"
      refine ⟨.ref sq, spotD t.1, rfl, spot_dp ⟨sq, rfl, hsq⟩, ?_⟩
      rw [show isSpotD (spotD t.1) = true from rfl]
      walk_at "uz"
      refine ⟨fa, _, rfl, rq_dp hfa, ?_⟩
      rw [ratD_is]
      walk_at "uz"
      refine ⟨d, _, rfl, DGet.t (k := keyS t.1) f2 hsq, ?_⟩
      rw [tabW_no (not_before nd0 hz)]
      have l2 : (tabW (zs.take i) ws).length < sizeLine := by
        rw [tabW_len (by omega), tl]
        show _ < 16777216
        omega
      have fin : ∀ H3, Ex H2 H3 → DPut H3 d (.ref sq) fa (upd H3 d (.dT (tabW (zs.take (i + 1)) (ws ++ [fa])))) ∧ Ex H (upd H3 d (.dT (tabW (zs.take (i + 1)) (ws ++ [fa])))) ∧ Kx K H1 (upd H3 d (.dT (tabW (zs.take (i + 1)) (ws ++ [fa])))) ∧ (∀ a o, a ≠ d → H1 a = some o → upd H3 d (.dT (tabW (zs.take (i + 1)) (ws ++ [fa]))) a = some o) := fun H3 e3 => by
        have hput := DPut.t (k := keyS t.1) (v := fa) (e3 _ _ f2) (e3 _ _ hsq) l2
        rw [tabW_put (by omega) (not_before nd0 hz), ← take_step hz] at hput
        have kx3 : Kx K H3 (upd H3 d (.dT (tabW (zs.take (i + 1)) (ws ++ [fa])))) := kx_but (K := K) (e3 _ _ f2) fun a o n z => by rw [upd_ne n]; exact z
        exact ⟨hput, ex_put nd' (e2.tr e3), fun p xs => ⟨fun h => (kx3 p xs).1 ((e3.kx p xs).1 ((kx2 p xs).1 h)), fun h => (kx3 p xs).2 ((e3.kx p xs).2 ((kx2 p xs).2 h))⟩, fun a o n z => by rw [upd_ne n]; exact e3 _ _ (m2 a o n z)⟩
      have fin2 : RatsX K H (ws ++ [fa]) (rs.take (i + 1)) := by
        rw [show rs.take (i + 1) = rs.take i ++ [ratP t.2] by rw [List.take_add_one, hrr]; rfl]
        exact hr.app hfa0
      walk_at "uz"
      refine s_ite (fun c => ?_) (fun c => ?_)
      · have i0 : i = 0 := by omega
        subst i0
        have tg : t = (gr, 0) := Option.some.inj (hti.symm.trans (g0 (fun z => by rw [z] at hti; cases hti)))
        subst tg
        walk_at "uz"
        refine s_tupE ?_
        walk_at "uz"
        refine s_szN (Nat.le_of_ble_eq_true rfl) fun t2 nt => s_nw nt fun H3 e3 f3 => ?_
        have hq3 := Ex.st htq e3
        refine ne_same (d := .tuple [spotD gr, ratD 0]) (.tup hq3 (.cons (spot_dp ⟨sq, rfl, e3 _ _ hsq⟩) (.cons (rq_dp (rq_ex hfa e3)) .nil))) (.tup (.of f3) (.cons (.tup (T.tG _) (.cons (.str _) (.cons (.int _) (.cons (.int _) .nil)))) (.cons (.tup (T.tZ _) (.cons (.int _) (.cons (.int _) .nil))) .nil))) (by decide +kernel) ?_
        walk_at "uz"
        refine ⟨d, _, rfl, (fin H3 e3).1, ?_⟩
        walk_at "uz"
        exact ⟨(fin H3 e3).2, by omega, _, _, upd_same, by rw [List.length_append, wl]; rfl, fin2, rfl⟩
      · walk_at "uz"
        refine ⟨d, _, rfl, (fin H2 (exR _)).1, ?_⟩
        walk_at "uz"
        exact ⟨(fin H2 (exR _)).2, by omega, _, _, upd_same, by rw [List.length_append, wl]; rfl, fin2, rfl⟩
    · have ie : i = ts.length := by omega
      subst ie
      obtain ⟨a, _⟩ | ⟨⟨_, _, _, _, _, hb⟩, ke⟩ := h
      · have := a.len
        omega
      obtain ⟨u0, _⟩ | ⟨xx, hxx, hb⟩ := hb
      · rw [u0] at hx
        cases hx
      rw [hx] at hxx
      cases hxx
      have hb2 := badp_ex hb e2
      have done : ∀ H3, Ex H2 H3 → ∀ e, H3 e = none → E (.ref cX) (some e) (upd H3 e (.xd [("place", .int (ts.length : Nat))])) := fun H3 e3 e ne => ke e _ ((e2.tr e3).tr (exN ne)) upd_same
      rcases hb2 with ⟨dd, hdd, sh, bad⟩ | ⟨q, a, b, z, r, rfl, hq, ⟨sq, rfl, hsq⟩, zok, hbr, why⟩
      · walk_at "us"
        refine s_isTup hdd ?_
        cases hdd with
        | @tup a xs ds hs ha =>
          have dl := dpa_length ha
          walk_at "ua"
          by_cases c2 : xs.length = 2
          · obtain ⟨x, y, dx, dy, rfl, rfl, hx, hy⟩ := dpa_2 ha c2
            replace bad : (isSpotD dx && isRatD dy) = false := bad
            walk_at "ua"
            refine ⟨x, dx, rfl, hx, ?_⟩
            cases z1 : isSpotD dx with
            | false =>
              walk_at "ua"
              exact ⟨rfl, fun e ne => done H2 (exR _) e ne⟩
            | true =>
              rw [z1, Bool.true_and] at bad
              walk_at "ua"
              refine ⟨y, dy, rfl, hy, ?_⟩
              rw [bad]
              walk_at "ua"
              exact ⟨rfl, fun e ne => done H2 (exR _) e ne⟩
          · rw [decide_eq_false (show ¬ (xs.length : Int) = 2 by omega)]
            walk_at "ua"
            exact ⟨rfl, fun e ne => done H2 (exR _) e ne⟩
        | _ =>
          walk_at "ua"
          exact ⟨rfl, fun e ne => done H2 (exR _) e ne⟩
      · walk_at "uz"
        refine s_isTupQ hq ?_
        walk_at "uz"
        refine ⟨.ref sq, spotD z, rfl, spot_dp ⟨sq, rfl, hsq⟩, ?_⟩
        rw [show isSpotD (spotD z) = true from rfl]
        walk_at "uz"
        refine ⟨b, _, rfl, rq_dp hbr, ?_⟩
        rw [ratD_is]
        walk_at "uz"
        refine ⟨d, _, rfl, DGet.t (k := keyS z) f2 hsq, ?_⟩
        have tk : zs.take ts.length = zs := by rw [← zl, List.take_length]
        rw [tk] at f2 ⊢
        by_cases m : z ∈ zs
        · obtain ⟨j, hj⟩ := List.mem_iff_getElem?.mp m
          obtain ⟨u, hu⟩ : ∃ u, ws[j]? = some u := ⟨_, List.getElem?_eq_getElem (by have := (List.getElem?_eq_some_iff.mp hj).1; omega)⟩
          rw [tabW_at nd0 hj hu]
          walk_at "uz"
          exact ⟨rfl, fun e ne => done H2 (exR _) e ne⟩
        · obtain ⟨t0, zr⟩ := why.resolve_left (by rw [hzs]; exact m)
          rw [tabW_no m]
          subst t0
          walk_at "uz"
          refine s_tupE ?_
          walk_at "uz"
          refine s_szN (Nat.le_of_ble_eq_true rfl) fun t2 nt => s_nw nt fun H3 e3 f3 => ?_
          refine ne_data (d := .tuple [spotD z, ratD r]) (e := .tuple [spotD gr, ratD 0]) (.tup (Ex.st hq e3) (.cons (spot_dp ⟨sq, rfl, e3 _ _ hsq⟩) (.cons (rq_dp (rq_ex hbr e3)) .nil))) (.tup (.of f3) (.cons (.tup (T.tG _) (.cons (.str _) (.cons (.int _) (.cons (.int _) .nil)))) (.cons (.tup (T.tZ _) (.cons (.int _) (.cons (.int _) .nil))) .nil))) (gr_pair_sh zok) (by decide +kernel) ?_
          rw [gr_pair, decide_eq_false zr]
          walk_at "uz"
          exact ⟨rfl, fun e ne => done H3 e3 e ne⟩
  · rintro σ' H2 ⟨⟨e2, kx2, m2⟩, il, ws, o3, f2, wl, hr, rfl⟩
    have ue : us.length = ts.length := by omega
    walk_at "uz"
    obtain ⟨a, G, k⟩ | ⟨⟨_, _, _, _, _, hb⟩, ke⟩ := h
    · have gp : 0 < ts.length := (List.getElem?_eq_some_iff.mp G.g).1
      refine s_ite (fun z => absurd z (by omega)) (fun _ => ?_)
      rw [ue, ← zl, List.take_length] at f2
      rw [ue, ← rl, List.take_length] at hr
      walk_at "uz"
      exact k d ws _ e2 f2 (by omega) (rats_im hr e2.im)
    · obtain ⟨u0, t0⟩ | ⟨xx, hxx, _⟩ := hb
      · subst u0 t0
        refine s_ite (fun _ => ?_) (fun c => absurd rfl c)
        walk_at "uz"
        exact ⟨rfl, fun e ne => ke e _ (e2.tr (exN ne)) upd_same⟩
      · exact absurd hxx (by rw [List.getElem?_eq_none (by omega)]; exact fun z => by cases z)
end

section
variable {P : Program} {w : World} {K : PySem.W.Frag} {mg : Str → Option Value} {base : Heap}
variable {cE cS cX cN cP cW cG cZ : Addr}
theorem ok_World_init (T : Tp P K mg cE cS cX cN cP cW cG cZ)
    (c_table_of_pairs : Cal P w K mg base 3 "table_of_pairs" P_table_of_pairs [] (spTableB K cX))
    {f : Addr} {fd : FuncData} {dvs : List V} (F : FunD K "__init__" "World.__init__" (defArgs s_World_init) (defBody s_World_init) (defScope s_World_init) dvs [] f fd) : FnG P w K mg base 4 f fd P_World_init (spInitB K cW cX) := by
  refine fng F sc_World_init (by walk_at "ulen") (fun cdv A outer s H vs Q E hr0 hg0 h => ?_)
  have hr : Rm 3 (A.deeper (envOfC "World.__init__" (defScope s_World_init) s.heap.objs.size f cdv)) := ⟨hr0, hg0⟩
  have nd : N_World_init.Nodup := sc_World_init.nd
  have tk : Takes (cxOf (L2.CX P w) P w K mg base N_World_init "World.__init__" (defScope s_World_init) f cdv A outer s H E) (fun cls d _ H => E cls d H) := takes_of rfl rfl rfl rfl
  obtain ⟨x, dx, p, us, ts, rfl, hx0, hp, h⟩ := h
  refine ⟨_, (pss_one (ps_fld (pv 0) (pe_c c_table_of_pairs (hr.mono (by decide)) (fun σ => passAt tk σ) (pa_cons (pv 1) pa_nil)) rfl)), ?_⟩
  walk_at "uk"
  walk_at "uz"
  refine s_sfld ?_
  walk_at "uz"
  obtain ⟨ht, G, k⟩ | ⟨hb, ke⟩ := h
  · refine ⟨p, us, ts, rfl, hp, .inl ⟨ht, G, fun d ws H1 e1 f1 wl hr => ?_⟩⟩
    walk_at "uz"
    refine ⟨x, cW, dx, [], rfl, e1 _ _ hx0, T.clW, T.nTb, by decide, ?_⟩
    refine s_iw fun H2 m2 f2 => ?_
    rw [show putF "table" (V.ref d) [] = [(("table" : Str), V.ref d)] from rfl] at f2
    have d2 : H2 d = some (.dT (tabW (ts.map fun t => t.1) ws)) := m2 _ _ (fun z => by rw [z, e1 _ _ hx0] at f1; cases f1) f1
    have K2 : Ki H1 H2 := ki_w (e1 _ _ hx0) m2
    walk_at "uz"
    exact k _ (fun a o na h => m2 _ _ na (e1 _ _ h)) ⟨x, dx, d, ws, rfl, f2, d2, wl, hr.len, fun i v r a b => by
      obtain ⟨q, h1, h2⟩ := hr.at_ i v r a b
      exact ⟨q, h1, (K2.kx _ _).2 h2⟩⟩
  · exact ⟨p, us, ts, rfl, hp, .inr ⟨hb, fun e H' e' f => ke e H' (fun a o _ h => e' a o h) f⟩⟩
end

theorem wt_get {K : PySem.W.Frag} {H : Hp} {d sq : Addr} {vs : List V} {ts : List Term} {z : Spot} {o : Option Rat} (hd : H d = some (.dT (tabW (ts.map fun t => t.1) vs))) (vl : vs.length = (ts.map fun t => t.1).length) (R : RatsX K H vs (ts.map fun t => ratP t.2)) (zn : (ts.map fun t => t.1).Nodup) (hsq : H sq = some (.tup (vS z))) (ho : lookT ts z = o) :
    (o = none ∧ DGet H d (.ref sq) none) ∨ ∃ q u, o = some q ∧ DGet H d (.ref sq) (some u) ∧ RQ K H u q := by
  have hg : DGet H d (.ref sq) (valV (tabW (ts.map fun t => t.1) vs) (keyS z)) := DGet.t (k := keyS z) hd hsq
  by_cases m : z ∈ ts.map fun t => t.1
  · obtain ⟨i, hi⟩ := List.mem_iff_getElem?.mp m
    have il := (List.getElem?_eq_some_iff.mp hi).1
    obtain ⟨u, hu⟩ : ∃ u, vs[i]? = some u := ⟨_, List.getElem?_eq_getElem (by omega)⟩
    rw [tabW_at zn hi hu] at hg
    rw [List.getElem?_map] at hi
    cases ht : ts[i]? with
    | none => rw [ht] at hi; cases hi
    | some t =>
      rw [ht] at hi
      have tz : t.1 = z := Option.some.inj hi
      have lt := lookT_at zn (List.mem_of_getElem? ht)
      rw [tz] at lt
      have rr : RatX K H u (ratP t.2) := R.at_ i u _ hu (by rw [List.getElem?_map, ht]; rfl)
      exact .inr ⟨t.2, u, ho.symm.trans lt, hg, rr⟩
  · rw [tabW_no m] at hg
    exact .inl ⟨ho.symm.trans (lookT_none m), hg⟩
section
variable {P : Program} {w : World} {K : PySem.W.Frag} {mg : Str → Option Value} {base : Heap}
variable {cE cS cX cN cP cW cG cZ : Addr}
theorem ok_World_getitem (T : Tp P K mg cE cS cX cN cP cW cG cZ)
    (c_is_spot : Cal P w K mg base 2 "is_spot" P_is_spot [] (spIsSpot K))
    {f : Addr} {fd : FuncData} {dvs : List V} (F : FunD K "__getitem__" "World.__getitem__" (defArgs s_World_getitem) (defBody s_World_getitem) (defScope s_World_getitem) dvs [] f fd) : FnG P w K mg base 3 f fd P_World_getitem (spGetB K cW cS) := by
  refine fng F sc_World_getitem (by walk_at "ulen") (fun cdv A outer s H vs Q E hr0 hg0 h => ?_)
  have hr : Rm 2 (A.deeper (envOfC "World.__getitem__" (defScope s_World_getitem) s.heap.objs.size f cdv)) := ⟨hr0, hg0⟩
  have nd : N_World_getitem.Nodup := sc_World_getitem.nd
  have tk : Takes (cxOf (L2.CX P w) P w K mg base N_World_getitem "World.__getitem__" (defScope s_World_getitem) f cdv A outer s H E) (fun cls d _ H => E cls d H) := takes_of rfl rfl rfl rfl
  obtain ⟨v, w, ts, o, rfl, hw, zn, ask, kin, kout⟩ := h
  obtain ⟨a, dx, d, vs, rfl, ha, hd, vl, R⟩ := hw
  refine ⟨_, (pss_cons (ps_if (PW.pt (pw_or (pt_not (pt_val (pe_c (E := En) c_is_spot (hr.mono (by decide)) paN (pa_cons (pv 1) pa_nil)))) (pw_or1 (pt_cmp (pc_dnotin (hu_of hr.r) (pv 1) (pe_fld (pv 0) rfl)))))) (pss_one (ps_raiseX rfl T.x_NoSpot hr.r tk (by decide) (by decide) (pa_cons (pv 1) pa_nil))) pss_nil)
    (pss_one (ps_ret (pe_dget (hu_of hr.r) (pe_fld (pv 0) rfl) (pv 1) (fun _ _ => rfl))))), ?_⟩
  walk_at "uk"
  walk_at "uz"
  rcases ask with ⟨z, ⟨sq, rfl, hsq⟩, ho⟩ | ⟨dd, hdd, ns, ho⟩
  · refine ⟨.ref sq, spotD z, rfl, spot_dp ⟨sq, rfl, hsq⟩, ?_⟩
    rw [show isSpotD (spotD z) = true from rfl]
    walk_at "uz"
    obtain ⟨on, hg⟩ | ⟨q, u, oq, hg, ru⟩ := wt_get hd vl R zn hsq ho
    · refine ⟨d, _, rfl, hg, ?_⟩
      walk_at "uz"
      exact ⟨rfl, fun e ne => kout on e _ (exN ne) upd_same⟩
    · refine ⟨d, _, rfl, hg, ?_⟩
      walk_at "uz"
      exact ⟨d, u, rfl, hg, kin q oq u ru⟩
  · refine ⟨w, dd, rfl, hdd, ?_⟩
    rw [ns]
    walk_at "uz"
    exact ⟨rfl, fun e ne => kout ho e _ (exN ne) upd_same⟩
end

section
variable {P : Program} {w : World} {K : PySem.W.Frag} {mg : Str → Option Value} {base : Heap}
variable {cE cS cX cN cP cW cG cZ : Addr}
theorem ok_World_iter (T : Tp P K mg cE cS cX cN cP cW cG cZ)
    {f : Addr} {fd : FuncData} {dvs : List V} (F : FunD K "__iter__" "World.__iter__" (defArgs s_World_iter) (defBody s_World_iter) (defScope s_World_iter) dvs [] f fd) : FnG P w K mg base 1 f fd P_World_iter (spIterW cW) := by
  refine fng F sc_World_iter (by walk_at "ulen") (fun cdv A outer s H vs Q E hr0 hg0 h => ?_)
  have hr : Rm 0 (A.deeper (envOfC "World.__iter__" (defScope s_World_iter) s.heap.objs.size f cdv)) := ⟨hr0, hg0⟩
  have nd : N_World_iter.Nodup := sc_World_iter.nd
  obtain ⟨a, dx, d, kvs, rfl, ha, hd, k⟩ := h
  refine ⟨_, (pss_one (ps_ret (pe_callB call_iterK (by rfl) T.iter b_iter (pa_cons (pe_fld (pv 0) rfl) pa_nil)))), ?_⟩
  walk_at "uk"
  walk_at "uz"
  exact s_itK hd k
end

section
variable {P : Program} {w : World} {K : PySem.W.Frag} {mg : Str → Option Value} {base : Heap}
variable {cE cS cX cN cP cW cG cZ : Addr}
theorem ok_World_len (T : Tp P K mg cE cS cX cN cP cW cG cZ)
    {f : Addr} {fd : FuncData} {dvs : List V} (F : FunD K "__len__" "World.__len__" (defArgs s_World_len) (defBody s_World_len) (defScope s_World_len) dvs [] f fd) : FnG P w K mg base 1 f fd P_World_len (spLenW cW) := by
  refine fng F sc_World_len (by walk_at "ulen") (fun cdv A outer s H vs Q E hr0 hg0 h => ?_)
  have hr : Rm 0 (A.deeper (envOfC "World.__len__" (defScope s_World_len) s.heap.objs.size f cdv)) := ⟨hr0, hg0⟩
  have nd : N_World_len.Nodup := sc_World_len.nd
  obtain ⟨a, dx, d, kvs, rfl, ha, hd, k⟩ := h
  refine ⟨_, (pss_one (ps_ret (pe_callB call_lenT2 (by rfl) T.len b_len (pa_cons (pe_fld (pv 0) rfl) pa_nil)))), ?_⟩
  walk_at "uk"
  walk_at "uz"
  exact ⟨d, kvs, rfl, hd, k⟩
end

section
variable {P : Program} {w : World} {K : PySem.W.Frag} {mg : Str → Option Value} {base : Heap}
variable {cE cS cX cN cP cW cG cZ : Addr}
theorem ok_World_contains (T : Tp P K mg cE cS cX cN cP cW cG cZ)
    (c_is_spot : Cal P w K mg base 2 "is_spot" P_is_spot [] (spIsSpot K))
    {f : Addr} {fd : FuncData} {dvs : List V} (F : FunD K "__contains__" "World.__contains__" (defArgs s_World_contains) (defBody s_World_contains) (defScope s_World_contains) dvs [] f fd) : FnG P w K mg base 3 f fd P_World_contains (spContB K cW) := by
  refine fng F sc_World_contains (by walk_at "ulen") (fun cdv A outer s H vs Q E hr0 hg0 h => ?_)
  have hr : Rm 2 (A.deeper (envOfC "World.__contains__" (defScope s_World_contains) s.heap.objs.size f cdv)) := ⟨hr0, hg0⟩
  have nd : N_World_contains.Nodup := sc_World_contains.nd
  obtain ⟨v, w, ts, o, rfl, hw, zn, ask, k⟩ := h
  obtain ⟨a, dx, d, vs, rfl, ha, hd, vl, R⟩ := hw
  refine ⟨_, (pss_one (ps_ret (pe_and (pe_c (E := En) c_is_spot (hr.mono (by decide)) paN (pa_cons (pv 1) pa_nil)) (pe_one (pe_cmp (pc_din (hu_of hr.r) (pv 1) (pe_fld (pv 0) rfl))))))), ?_⟩
  walk_at "uk"
  walk_at "uz"
  rcases ask with ⟨z, ⟨sq, rfl, hsq⟩, ho⟩ | ⟨dd, hdd, ns, rfl⟩
  · refine ⟨.ref sq, spotD z, rfl, spot_dp ⟨sq, rfl, hsq⟩, ?_⟩
    rw [show isSpotD (spotD z) = true from rfl]
    walk_at "uz"
    obtain ⟨rfl, hg⟩ | ⟨q, u, rfl, hg, ru⟩ := wt_get hd vl R zn hsq ho
    · refine ⟨d, _, rfl, hg, ?_⟩
      walk_at "uz"
      exact k
    · refine ⟨d, _, rfl, hg, ?_⟩
      walk_at "uz"
      exact k
  · refine ⟨w, dd, rfl, hdd, ?_⟩
    rw [ns]
    walk_at "uz"
    exact k
end

theorem hits_of {K : PySem.W.Frag} {H : Hp} {us : List Term} {ws : List V} (wl : ws.length = (us.map fun t => t.1).length) (R : RatsX K H ws (us.map fun t => ratP t.2)) (nd : (us.map fun t => t.1).Nodup) : ∀ {ts : List Term} {vs : List V}, vs.length = ts.length → (∀ (i : Nat) v t, vs[i]? = some v → ts[i]? = some t → RQ K H v t.2) →
    HitsT K H (tabW (us.map fun t => t.1) ws) (tabW (ts.map fun t => t.1) vs) (ts.all fun t => decide (lookT us t.1 = some t.2))
  | [], [], _, _ => rfl
  | [], _ :: _, l, _ => by cases l
  | _ :: _, [], l, _ => by cases l
  | t :: ts, v :: vs, l, h => by
    have ih := hits_of wl R nd (ts := ts) (vs := vs) (by simpa using l) fun i v t a b => h (i + 1) v t a b
    show (valV (tabW (us.map fun t => t.1) ws) (keyS t.1) = none ∧ _) ∨ _
    by_cases m : t.1 ∈ us.map fun t => t.1
    · obtain ⟨i, hi⟩ := List.mem_iff_getElem?.mp m
      have il := (List.getElem?_eq_some_iff.mp hi).1
      obtain ⟨u, hu⟩ : ∃ u, ws[i]? = some u := ⟨_, List.getElem?_eq_getElem (by omega)⟩
      have e1 := tabW_at nd hi hu
      rw [List.getElem?_map] at hi
      cases hx : us[i]? with
      | none => rw [hx] at hi; cases hi
      | some x =>
        rw [hx] at hi
        have xt : x.1 = t.1 := Option.some.inj hi
        have lt := lookT_at nd (List.mem_of_getElem? hx)
        rw [xt] at lt
        have rr0 : RatX K H u (ratP x.2) := R.at_ i u _ hu (by rw [List.getElem?_map, hx]; rfl)
        have rr : RQ K H u x.2 := rr0
        refine .inr ⟨u, ratD t.2, ratD x.2, _, e1, rq_dp (h 0 v t rfl rfl), rq_dp rr, rat_sh _, rat_sh _, ih, ?_⟩
        rw [rat_eqv, List.all_cons, lt]
        congr 1
        exact decide_eq_decide.mpr ⟨fun q => (Option.some.inj q).symm, fun q => by rw [q]⟩
    · refine .inl ⟨tabW_no m, ?_⟩
      rw [List.all_cons, lookT_none m]
      simp
section
variable {P : Program} {w : World} {K : PySem.W.Frag} {mg : Str → Option Value} {base : Heap}
variable {cE cS cX cN cP cW cG cZ : Addr}
theorem ok_World_eq (T : Tp P K mg cE cS cX cN cP cW cG cZ)
    {f : Addr} {fd : FuncData} {dvs : List V} (F : FunD K "__eq__" "World.__eq__" (defArgs s_World_eq) (defBody s_World_eq) (defScope s_World_eq) dvs [] f fd) : FnG P w K mg base 1 f fd P_World_eq (spEqB K cW) := by
  refine fng F sc_World_eq (by walk_at "ulen") (fun cdv A outer s H vs Q E hr0 hg0 h => ?_)
  have hr : Rm 0 (A.deeper (envOfC "World.__eq__" (defScope s_World_eq) s.heap.objs.size f cdv)) := ⟨hr0, hg0⟩
  have nd : N_World_eq.Nodup := sc_World_eq.nd
  obtain ⟨v, w, ts, rfl, hv, G, h⟩ := h
  obtain ⟨a, dx, d, vs, rfl, ha, hd, vl, R⟩ := hv
  refine ⟨_, (pss_one (ps_ret (pe_and (pe_callB call_isi (by rfl) T.isinstance b_isinstance (pa_cons (pv 1) (pa_cons (pe_gR T.g_World) pa_nil))) (pe_one (pe_cmpR (op_eqT (un100 hr.r)) (pe_fld (pv 0) rfl) (pe_fld (pv 1) rfl) (nomark _)))))), ?_⟩
  walk_at "uk"
  walk_at "uz"
  obtain ⟨us, ⟨b, dy, e, ws, rfl, hb, he, wl, R2⟩, G2, k⟩ | ⟨o, k⟩ := h
  · refine s_isWorld T hb ?_
    walk_at "uz"
    have l1 := tabW_len (zs := ts.map fun t => t.1) vl
    have l2 := tabW_len (zs := us.map fun t => t.1) wl
    rw [List.length_map] at l1 l2 vl
    refine s_eqT hd he (fun _ => hits_of wl R2 G2.nd (ts := ts) (vs := vs) vl fun i v t h1 h2 => ?_) ?_
    · have : RatX K H v (ratP t.2) := R.at_ i v _ h1 (by rw [List.getElem?_map, h2]; rfl)
      exact this
    · rw [l1, l2]
      exact k H (exR _)
  · obtain rfl | ⟨i, rfl⟩ | ⟨s', rfl⟩ | ⟨q, us, rfl, hq⟩ | ⟨q, us, rfl, hq⟩ := o
    · refine ⟨_, _, _, _, false, rfl, .own _, .base .non, T.kNW, ?_⟩
      walk_at "uz"
      exact k
    · refine ⟨_, _, _, _, false, rfl, .own _, .base (.int i), T.kIW, ?_⟩
      walk_at "uz"
      exact k
    · refine ⟨_, _, _, _, false, rfl, .own _, .base (.str s'), T.kTW, ?_⟩
      walk_at "uz"
      exact k
    · refine ⟨_, _, _, _, false, rfl, .own _, tyx_tup hq, T.kUW, ?_⟩
      walk_at "uz"
      exact k
    · refine ⟨_, _, _, _, false, rfl, .own _, .base (.lst hq), T.kLW, ?_⟩
      walk_at "uz"
      exact k
end

theorem big40 {q : Rat} (h : Sz (10 ^ 40) q) : Sz big q := h.mono (big_ge (by decide))
theorem look_sz {ts : List Term} {z : Spot} {q : Rat} (G : GoodT ts) (h : lookT ts z = some q) : Sz (10 ^ 40) q := G.sz _ (lookT_some h)
theorem ask_sz {K : PySem.W.Frag} {H : Hp} {w : V} {ts : List Term} {o : Option Rat} {q : Rat} (G : GoodT ts) (h : AskT K H w ts o) (e : o = some q) : Sz (10 ^ 40) q := by
  subst e
  rcases h with ⟨z, _, h⟩ | ⟨_, _, _, h⟩
  · exact look_sz G h
  · cases h
theorem wt_ins {K : PySem.W.Frag} {C : Addr} {H : Hp} {v : V} {ts : List Term} (h : WT K C H v ts) : ∃ a dx fs, v = .ref a ∧ H a = some (.ins C dx fs) := let ⟨a, dx, _, _, h1, h2, _⟩ := h; ⟨a, dx, _, h1, h2⟩
section
variable {P : Program} {w : World} {K : PySem.W.Frag} {mg : Str → Option Value} {base : Heap}
variable {cE cS cX cN cP cW cG cZ : Addr}
theorem ok_World_gap (T : Tp P K mg cE cS cX cN cP cW cG cZ)
    (c_World_getitem : CalM P w K mg base 3 cW "__getitem__" P_World_getitem (spGetB K cW cS))
    (c_minus : Cal P w K mg base 2 "minus" P_minus [] (spMinus K))
    {f : Addr} {fd : FuncData} {dvs : List V} (F : FunD K "gap" "World.gap" (defArgs s_World_gap) (defBody s_World_gap) (defScope s_World_gap) dvs [] f fd) : FnG P w K mg base 5 f fd P_World_gap (spGapB K cW cS) := by
  refine fng F sc_World_gap (by walk_at "ulen") (fun cdv A outer s H vs Q E hr0 hg0 h => ?_)
  have hr : Rm 4 (A.deeper (envOfC "World.gap" (defScope s_World_gap) s.heap.objs.size f cdv)) := ⟨hr0, hg0⟩
  have nd : N_World_gap.Nodup := sc_World_gap.nd
  have tk : Takes (cxOf (L2.CX P w) P w K mg base N_World_gap "World.gap" (defScope s_World_gap) f cdv A outer s H E) (fun cls d _ H => E cls d H) := takes_of rfl rfl rfl rfl
  obtain ⟨v, a, b, ts, oa, ob, rfl, hw, G, asa, asb, k, ka, kb⟩ := h
  refine ⟨_, (pss_cons (ps_set (i := 3) nd rfl (Or.inl rfl) (pe_getO (E := WE _) (pv 0) (pv 1) c_World_getitem T.gi_World (hr.mono (by decide)) (fun σ => passAt tk σ)))
    (pss_one (ps_ret (pe_c (E := En) c_minus (hr.mono (by decide)) paN (pa_cons (pe_getO (E := WE _) (pv 0) (pv 2) c_World_getitem T.gi_World (hr.mono (by decide)) (fun σ => passAt tk σ)) (pa_cons (pv 3) pa_nil)))))), ?_⟩
  walk_at "uk"
  walk_at "uz"
  obtain ⟨wa, dx, fs, rfl, hwa⟩ := wt_ins hw
  refine ⟨wa, dx, fs, rfl, hwa, _, _, ts, oa, rfl, hw, G.nd, asa, fun p hp u hu => ?_, fun z => ka z⟩
  walk_at "uz"
  refine ⟨wa, dx, fs, rfl, hwa, _, _, ts, ob, rfl, hw, G.nd, asb, fun q hq w hw2 => ?_, fun z => kb p hp z⟩
  walk_at "uz"
  refine minusQ hw2 hu (big40 (ask_sz G asb hq)) (big40 (ask_sz G asa hp)) fun z H' e r => ?_
  exact k p q hp hq z H' e r
end

theorem sz_one {n : Int} (h : n.natAbs ≤ 10 ^ 100) : Sz big (n : Rat) := ⟨by show n.natAbs ≤ _; exact Nat.le_trans h (big_ge (by decide)), by show 1 ≤ _; exact Nat.one_le_pow _ _ (by decide)⟩
theorem gap_sz {p q : Rat} (h : Sz (10 ^ 40) p) (g : Sz (10 ^ 40) q) : Sz big (q - p) := (g.sub h).mono (Nat.le_trans (show 2 * (10 ^ 40 * 10 ^ 40) ≤ 10 ^ 81 by decide) (big_ge (by decide)))
theorem cmp_le {p q : Rat} : decide (cmpQ p q ≤ 0) = decide (p ≤ q) := by
  unfold cmpQ
  by_cases a : p < q
  · rw [if_pos a]
    rw [decide_eq_true (Rat.le_of_lt a)]
    rfl
  · rw [if_neg a]
    by_cases b : q < p
    · rw [if_pos b, decide_eq_false (fun z => absurd b (Rat.not_lt.mpr z))]
      rfl
    · rw [if_neg b, decide_eq_true (Rat.not_lt.mp b)]
      rfl
section
variable {P : Program} {w : World} {K : PySem.W.Frag} {mg : Str → Option Value} {base : Heap}
variable {cE cS cX cN cP cW cG cZ : Addr}
theorem ok_World_keeps (T : Tp P K mg cE cS cX cN cP cW cG cZ)
    (c_World_gap : CalM P w K mg base 5 cW "gap" P_World_gap (spGapB K cW cS))
    (c_compare : Cal P w K mg base 1 "compare" P_compare [] (spCompare K))
    {f : Addr} {fd : FuncData} {dvs : List V} (F : FunD K "keeps" "World.keeps" (defArgs s_World_keeps) (defBody s_World_keeps) (defScope s_World_keeps) dvs [] f fd) : FnG P w K mg base 6 f fd P_World_keeps (spKeepsB K cW cS) := by
  refine fng F sc_World_keeps (by walk_at "ulen") (fun cdv A outer s H vs Q E hr0 hg0 h => ?_)
  have hr : Rm 5 (A.deeper (envOfC "World.keeps" (defScope s_World_keeps) s.heap.objs.size f cdv)) := ⟨hr0, hg0⟩
  have nd : N_World_keeps.Nodup := sc_World_keeps.nd
  have tk : Takes (cxOf (L2.CX P w) P w K mg base N_World_keeps "World.keeps" (defScope s_World_keeps) f cdv A outer s H E) (fun cls d _ H => E cls d H) := takes_of rfl rfl rfl rfl
  obtain ⟨v, l, a, b, y, ts, oa, ob, n, rfl, hl, hn, hw, G, asa, asb, k, ka, kb⟩ := h
  obtain ⟨wa, dx, d, vs, rfl, hwa, hd, vl, R⟩ := id hw
  refine ⟨_, (pss_one (ps_ret (pe_cmpR op_le (pe_c (E := En) c_compare (hr.mono (by decide)) paN (pa_cons (pe_mG (E := WE _) (pv 0) c_World_gap (hr.mono (by decide)) (fun σ => passAt tk σ) (pa_cons (pe_ix ix_seq (pv 1) pe_int (fun _ _ => rfl)) (pa_cons (pe_ix ix_seq (pv 1) pe_int (fun _ _ => rfl)) pa_nil))) (pa_cons (pe_tup (pa_cons (pe_ix ix_seq (pv 1) pe_int (fun _ _ => rfl)) (pa_cons pe_int pa_nil))) pa_nil))) pe_int (nomark _)))), ?_⟩
  walk_at "uk"
  walk_at "uz"
  refine ⟨wa, dx, _, rfl, hwa, rfl, ?_⟩
  walk_at "uz"
  refine ⟨_, a, b, ts, oa, ob, rfl, hw, G, asa, asb, fun p q hp hq u H1 e1 hu => ?_, ka, kb⟩
  have hl1 := Ex.st hl e1
  walk_at "uz"
  refine s_tupE ?_
  walk_at "uz"
  refine s_szN (Nat.le_of_ble_eq_true rfl) fun t nt => s_nw nt fun H2 e2 f2 => ?_
  have rt : RQ K H2 (.ref t) (n : Rat) := ⟨t, rfl, .of f2⟩
  walk_at "uz"
  refine compareQ (rq_ex hu e2) rt (gap_sz (ask_sz G asa hp) (ask_sz G asb hq)) (sz_one hn) ?_
  walk_at "uz"
  rw [cmp_le]
  exact k p q hp hq H2 (e1.tr e2)
end

section
variable {P : Program} {w : World} {K : PySem.W.Frag} {mg : Str → Option Value} {base : Heap}
variable {cE cS cX cN cP cW cG cZ : Addr}
theorem ok_mixed_worlds (T : Tp P K mg cE cS cX cN cP cW cG cZ)
    (c_World_init : CalC P w K mg base 4 "World" cW P_World_init (spInitB K cW cX))
    (c_compare : Cal P w K mg base 1 "compare" P_compare [] (spCompare K))
    {f : Addr} {fd : FuncData} {dvs : List V} (F : FunD K "mixed_worlds" "mixed_worlds" (defArgs s_mixed_worlds) (defBody s_mixed_worlds) (defScope s_mixed_worlds) dvs [] f fd) : FnG P w K mg base 6 f fd P_mixed_worlds (spMixedB K cW cS) := by
  refine fng F sc_mixed_worlds (by walk_at "ulen") (fun cdv A outer s H vs Q E hr0 hg0 h => ?_)
  have hr : Rm 5 (A.deeper (envOfC "mixed_worlds" (defScope s_mixed_worlds) s.heap.objs.size f cdv)) := ⟨hr0, hg0⟩
  have nd : N_mixed_worlds.Nodup := sc_mixed_worlds.nd
  have tk : Takes (cxOf (L2.CX P w) P w K mg base N_mixed_worlds "mixed_worlds" (defScope s_mixed_worlds) f cdv A outer s H E) (fun cls d _ H => E cls d H) := takes_of rfl rfl rfl rfl
  have po : PassesOwn (model P w) (cxOf (L2.CX P w) P w K mg base N_mixed_worlds "mixed_worlds" (defScope s_mixed_worlds) f cdv A outer s H E).A (cxOf (L2.CX P w) P w K mg base N_mixed_worlds "mixed_worlds" (defScope s_mixed_worlds) f cdv A outer s H E).env (cxOf (L2.CX P w) P w K mg base N_mixed_worlds "mixed_worlds" (defScope s_mixed_worlds) f cdv A outer s H E).xe := passes_of rfl
  obtain ⟨v, w, ts, us, sg, rfl, hv, hw, G, G2, sg1, ke, k⟩ := h
  obtain ⟨wa, dx, d, vs, rfl, hwa, hd, vl, R⟩ := id hv
  obtain ⟨wb, dy, e, ws, rfl, hwb, he, wl, R2⟩ := id hw
  refine ⟨_, (pss_cons (ps_for po rfl (pi_list (pe_callTy (call_keysL rfl) (by rfl) T.list b_list (pa_cons (pe_fld (pv 0) rfl) pa_nil))) (pg_name (i := 3) nd rfl (Or.inl rfl))
    (pss_one (ps_if (pt_cmp (pc_dnotin (hu_of hr.r) (pv 3) (pe_fld (pv 1) rfl))) (pss_one (ps_raiseX rfl T.x_NoSpot hr.r tk (by decide) (by decide) (pa_cons (pv 3) pa_nil))) pss_nil)))
    (pss_cons (ps_for po rfl (pi_list (pe_callTy (call_keysL rfl) (by rfl) T.list b_list (pa_cons (pe_fld (pv 1) rfl) pa_nil))) (pg_name (i := 3) nd rfl (Or.inl rfl))
    (pss_one (ps_if (pt_cmp (pc_dnotin (hu_of hr.r) (pv 3) (pe_fld (pv 0) rfl))) (pss_one (ps_raiseX rfl T.x_NoSpot hr.r tk (by decide) (by decide) (pa_cons (pv 3) pa_nil))) pss_nil)))
    (pss_cons (ps_set (i := 4) nd rfl (Or.inl rfl) (pe_lst pa_nil))
    (pss_cons (ps_for po rfl (pi_list (pe_callTy (call_keysL rfl) (by rfl) T.list b_list (pa_cons (pe_fld (pv 0) rfl) pa_nil))) (pg_name (i := 3) nd rfl (Or.inl rfl))
    (pss_cons (ps_set (i := 5) nd rfl (Or.inl rfl) (pe_dget (hu_of hr.r) (pe_fld (pv 0) rfl) (pv 3) (fun _ _ => rfl)))
    (pss_cons (ps_if (pt_cmpR (op_uEq hr.r.units) (pe_c (E := En) c_compare (hr.mono (by decide)) paN (pa_cons (pe_dget (hu_of hr.r) (pe_fld (pv 1) rfl) (pv 3) (fun _ _ => rfl)) (pa_cons (pv 5) pa_nil))) (pv 2) (nomark _)) (pss_one (ps_set (i := 5) nd rfl (Or.inl rfl) (pe_dget (hu_of hr.r) (pe_fld (pv 1) rfl) (pv 3) (fun _ _ => rfl)))) pss_nil)
    (pss_one (ps_expr (pe_bm PySem.F.plainAttrs_list PySem.F.slot_list_append PySem.F.type_list_append mt_append (pv 4) (pa_cons (pe_tup (pa_cons (pv 3) (pa_cons (pv 5) pa_nil))) pa_nil)))))))
    (pss_one (ps_ret (pe_mkG (E := WE _) c_World_init (hr.mono (by decide)) (fun σ => passAt tk σ) (pa_cons (pv 4) pa_nil)))))))), ?_⟩
  walk_at "uk"
  walk_at "uz"
  refine s_keysL hd vl fun p us1 H1 np e1 f1 s1 => ?_
  have ul1 := s1.len
  rw [List.length_map] at ul1
  walk_at "uz"
  refine loopL (xs := us1) (fun i σ' H' => Ex H1 H' ∧ (∀ z ∈ (ts.map fun t => t.1).take i, ¬ z ∉ us.map fun t => t.1) ∧ ∃ o3, σ' = [some (.ref wa), some (.ref wb), some (.int sg), o3, none, none]) ⟨exR _, (by intro z m; cases m), none, rfl⟩ (fun i σ' H' h => .of (h.1 _ _ f1)) ?_ ?_
  rotate_left
  · rintro i x σ' H2 hx ⟨e2, all, o3, rfl⟩
    have il := (List.getElem?_eq_some_iff.mp hx).1
    obtain ⟨z, hz⟩ : ∃ z, (ts.map fun t => t.1)[i]? = some z := ⟨_, List.getElem?_eq_getElem (by rw [List.length_map]; omega)⟩
    obtain ⟨sq, rfl, hsq⟩ := spot_im (s1.at_ i x z hx hz) e2.im
    have e12 := e1.tr e2
    have hwb2 := e12 _ _ hwb
    walk_at "uz"
    by_cases m : z ∈ us.map fun t => t.1
    · obtain ⟨j, hj⟩ := List.mem_iff_getElem?.mp m
      obtain ⟨u, hu⟩ : ∃ u, ws[j]? = some u := ⟨_, List.getElem?_eq_getElem (by have := (List.getElem?_eq_some_iff.mp hj).1; omega)⟩
      refine ⟨e, _, rfl, DGet.t (k := keyS z) (e12 _ _ he) hsq, ?_⟩
      rw [tabW_at G2.nd hj hu]
      walk_at "uz"
      exact ⟨e2, take_all hz all (fun q => q m), _, rfl⟩
    · refine ⟨e, _, rfl, DGet.t (k := keyS z) (e12 _ _ he) hsq, ?_⟩
      rw [tabW_no m]
      walk_at "uz"
      obtain ⟨r, hr⟩ := lost_step (P := fun y => y ∉ us.map fun t => t.1) hz all m
      exact ⟨rfl, fun e' ne => ke z _ (by unfold lostT; rw [hr]; rfl) e' _ _ (e12.tr (exN ne)) ⟨sq, rfl, exN ne _ _ hsq⟩ upd_same⟩
  rintro σ' H2 ⟨e2, all1, o3, rfl⟩
  rw [ul1, List.take_of_length_le (by rw [List.length_map]; exact Nat.le_refl _)] at all1
  have fil1 : ((ts.map fun t => t.1).filter fun z => decide (z ∉ us.map fun t => t.1)) = [] := List.filter_eq_nil_iff.mpr fun y m => by simpa using all1 y m
  have e02 := e1.tr e2
  clear f1 s1 ul1
  have hwb2 := e02 _ _ hwb
  walk_at "uz"
  refine s_keysL (e02 _ _ he) wl fun p2 us2 H3 np2 e3 f3 s3 => ?_
  have ul3 := s3.len
  rw [List.length_map] at ul3
  have e03 := e02.tr e3
  walk_at "uz"
  refine loopL (xs := us2) (fun i σ' H' => Ex H3 H' ∧ (∀ z ∈ (us.map fun t => t.1).take i, ¬ z ∉ ts.map fun t => t.1) ∧ ∃ o3, σ' = [some (.ref wa), some (.ref wb), some (.int sg), o3, none, none]) ⟨exR _, (by intro z m; cases m), _, rfl⟩ (fun i σ' H' h => .of (h.1 _ _ f3)) ?_ ?_
  rotate_left
  · rintro i x σ' H4 hx ⟨e4, all, o4, rfl⟩
    have il := (List.getElem?_eq_some_iff.mp hx).1
    obtain ⟨z, hz⟩ : ∃ z, (us.map fun t => t.1)[i]? = some z := ⟨_, List.getElem?_eq_getElem (by rw [List.length_map]; omega)⟩
    obtain ⟨sq, rfl, hsq⟩ := spot_im (s3.at_ i x z hx hz) e4.im
    have e04 := e03.tr e4
    have hwa4 := e04 _ _ hwa
    walk_at "uz"
    by_cases m : z ∈ ts.map fun t => t.1
    · obtain ⟨j, hj⟩ := List.mem_iff_getElem?.mp m
      obtain ⟨u, hu⟩ : ∃ u, vs[j]? = some u := ⟨_, List.getElem?_eq_getElem (by have := (List.getElem?_eq_some_iff.mp hj).1; omega)⟩
      refine ⟨d, _, rfl, DGet.t (k := keyS z) (e04 _ _ hd) hsq, ?_⟩
      rw [tabW_at G.nd hj hu]
      walk_at "uz"
      exact ⟨e4, take_all hz all (fun q => q m), _, rfl⟩
    · refine ⟨d, _, rfl, DGet.t (k := keyS z) (e04 _ _ hd) hsq, ?_⟩
      rw [tabW_no m]
      walk_at "uz"
      obtain ⟨r, hr⟩ := lost_step (P := fun y => y ∉ ts.map fun t => t.1) hz all m
      exact ⟨rfl, fun e' ne => ke z _ (by unfold lostT; rw [fil1, List.nil_append, hr]) e' _ _ (e04.tr (exN ne)) ⟨sq, rfl, exN ne _ _ hsq⟩ upd_same⟩
  rintro σ' H4 ⟨e4, all2, o4, rfl⟩
  rw [ul3, List.take_of_length_le (by rw [List.length_map]; exact Nat.le_refl _)] at all2
  have fil2 : ((us.map fun t => t.1).filter fun z => decide (z ∉ ts.map fun t => t.1)) = [] := List.filter_eq_nil_iff.mpr fun y m => by simpa using all2 y m
  have lost : lostT ts us = [] := by unfold lostT; rw [fil1, fil2]; rfl
  have e04 := e03.tr e4
  clear f3 s3 ul3
  have l40 := G.len
  walk_at "uz"
  refine s_lstE ?_
  walk_at "uz"
  refine s_szN (Nat.zero_le _) fun q nq => s_nw nq fun H5 e5 f5 => ?_
  have e05 := e04.tr e5
  have hwa5 := e05 _ _ hwa
  walk_at "uz"
  refine s_keysL (e05 _ _ hd) vl fun p3 us3 H6 np3 e6 f6 s6 => ?_
  have ul6 := s6.len
  rw [List.length_map] at ul6
  have e06 := e05.tr e6
  have f56 := e6 _ _ f5
  have nqp : q ≠ p3 := fun z => by rw [z, np3] at f5; cases f5
  walk_at "uz"
  refine loopL (xs := us3) (fun i σ' H' => (∀ a o, a ≠ q → H6 a = some o → H' a = some o) ∧ i ≤ ts.length ∧ ∃ acc o3 o5, H' q = some (.lst acc) ∧ TermsAt K H' acc ((mixT sg ts us).take i) ∧ σ' = [some (.ref wa), some (.ref wb), some (.int sg), o3, some (.ref q), o5]) ⟨fun _ _ _ h => h, Nat.zero_le _, [], _, none, f56, ⟨rfl, fun _ _ _ h => by cases h⟩, rfl⟩ (fun i σ' H' h => .of (h.1 _ _ (Ne.symm nqp) f6)) ?_ ?_
  rotate_left
  · rintro i x σ' H7 hx ⟨m7, il, acc, o3, o5, f7, t7, rfl⟩
    have xl := (List.getElem?_eq_some_iff.mp hx).1
    obtain ⟨t, ht⟩ : ∃ t, ts[i]? = some t := ⟨_, List.getElem?_eq_getElem (by omega)⟩
    have tm := List.mem_of_getElem? ht
    have hz : (ts.map fun t => t.1)[i]? = some t.1 := by rw [List.getElem?_map, ht]; rfl
    have nH : H q = none := by
      cases y : H q with
      | none => rfl
      | some o => rw [e04 _ _ y] at nq; cases nq
    have e07 : Ex H H7 := fun a o h => m7 a o (fun z => by rw [z, nH] at h; cases h) (e06 _ _ h)
    obtain ⟨sq, sx, hsq6⟩ := s6.at_ i x t.1 hx hz
    cases sx
    have nsq : sq ≠ q := fun z => by rw [z, f56] at hsq6; cases hsq6
    have hsq := m7 _ _ nsq hsq6
    obtain ⟨va, hva⟩ : ∃ va, vs[i]? = some va := ⟨_, List.getElem?_eq_getElem (by rw [vl, List.length_map]; omega)⟩
    have ra0 : RatX K H va (ratP t.2) := R.at_ i va _ hva (by rw [List.getElem?_map, ht]; rfl)
    have ra : RQ K H7 va t.2 := rq_ex ra0 e07
    have mz : t.1 ∈ us.map fun t => t.1 := Classical.not_not.mp (all1 t.1 (List.mem_map_of_mem tm))
    obtain ⟨j, hj⟩ := List.mem_iff_getElem?.mp mz
    have jl := (List.getElem?_eq_some_iff.mp hj).1
    obtain ⟨vb, hvb⟩ : ∃ vb, ws[j]? = some vb := ⟨_, List.getElem?_eq_getElem (by omega)⟩
    have tb := tabW_at G2.nd hj hvb
    obtain ⟨y, hy, yt⟩ : ∃ y, us[j]? = some y ∧ y.1 = t.1 := by
      rw [List.getElem?_map] at hj
      cases q : us[j]? with
      | none => rw [q] at hj; cases hj
      | some y => rw [q] at hj; exact ⟨y, rfl, Option.some.inj hj⟩
    have lk := lookT_at G2.nd (List.mem_of_getElem? hy)
    rw [yt] at lk
    have rb0 : RatX K H vb (ratP y.2) := R2.at_ j vb _ hvb (by rw [List.getElem?_map, hy]; rfl)
    have rb : RQ K H7 vb y.2 := rq_ex rb0 e07
    have ga : DGet H7 d (.ref sq) (some va) := by
      have := DGet.t (k := keyS t.1) (e07 _ _ hd) hsq
      rwa [tabW_at G.nd hz hva] at this
    have gb : DGet H7 e (.ref sq) (some vb) := by
      have := DGet.t (k := keyS t.1) (e07 _ _ he) hsq
      rwa [tb] at this
    have al : acc.length ≤ 40 := by
      rw [t7.len, List.length_take]
      unfold mixT
      rw [List.length_map]
      omega
    have fin : ∀ u7, RQ K H7 u7 (mixR sg t.2 y.2) → ∀ tq H8, Ex H7 H8 → H8 tq = some (.tup [.ref sq, u7]) → ∀ H9, (∀ a o, a ≠ q → H8 a = some o → H9 a = some o) → Im H8 H9 → H9 q = some (.lst (acc ++ [.ref tq])) → (∀ a o, a ≠ q → H6 a = some o → H9 a = some o) ∧ i + 1 ≤ ts.length ∧ ∃ acc o3' o5', H9 q = some (.lst acc) ∧ TermsAt K H9 acc ((mixT sg ts us).take (i + 1)) ∧ ([some (.ref wa), some (.ref wb), some (.int sg), some (.ref sq), some (.ref q), some u7] : L2.St) = [some (.ref wa), some (.ref wb), some (.int sg), o3', some (.ref q), o5'] := fun u7 ru tq H8 e8 f8 H9 m9 i9 f9 => by
      refine ⟨fun a o n h => m9 a o n (e8 _ _ (m7 a o n h)), by omega, _, _, _, f9, ?_, rfl⟩
      have mi : (mixT sg ts us)[i]? = some (t.1, mixR sg t.2 y.2) := by
        unfold mixT
        rw [List.getElem?_map, ht]
        show some (t.1, mixR sg t.2 ((lookT us t.1).getD 0)) = _
        rw [lk]
        rfl
      rw [List.take_add_one, mi]
      exact terms_app (terms_im t7 (e8.im.tr i9)) ⟨tq, .ref sq, u7, rfl, sqt_im (.of f8) i9, spot_im ⟨sq, rfl, e8 _ _ hsq⟩ i9, rq_im (rq_ex ru e8) i9⟩
    have hwa7 := e07 _ _ hwa
    have hwb7 := e07 _ _ hwb
    walk_at "uz"
    refine ⟨d, va, rfl, ga, ?_⟩
    walk_at "uz"
    refine ⟨e, vb, rfl, gb, ?_⟩
    walk_at "uz"
    refine compareQ rb ra (big40 (G2.sz y (List.mem_of_getElem? hy))) (big40 (G.sz t tm)) ?_
    walk_at "uz"
    by_cases c : cmpQ y.2 t.2 = sg
    · rw [decide_eq_true c]
      walk_at "uz"
      refine ⟨e, vb, rfl, gb, ?_⟩
      walk_at "uz"
      refine s_tyL (.of f7) ?_
      walk_at "uz"
      refine s_tupE ?_
      walk_at "uz"
      refine s_szN (Nat.le_of_ble_eq_true rfl) fun tq ntq => s_nw ntq fun H8 e8 f8 => ?_
      refine ⟨q, acc, _, rfl, rfl, e8 _ _ f7, by show _ < 16777216; omega, ?_⟩
      refine s_mw (e8 _ _ f7) fun H9 m9 i9 f9 => ?_
      exact fin vb (by unfold mixR; rw [if_pos c]; exact rb) tq H8 e8 f8 H9 m9 i9 f9
    · rw [decide_eq_false c]
      walk_at "uz"
      refine s_tyL (.of f7) ?_
      walk_at "uz"
      refine s_tupE ?_
      walk_at "uz"
      refine s_szN (Nat.le_of_ble_eq_true rfl) fun tq ntq => s_nw ntq fun H8 e8 f8 => ?_
      refine ⟨q, acc, _, rfl, rfl, e8 _ _ f7, by show _ < 16777216; omega, ?_⟩
      refine s_mw (e8 _ _ f7) fun H9 m9 i9 f9 => ?_
      exact fin va (by unfold mixR; rw [if_neg c]; exact ra) tq H8 e8 f8 H9 m9 i9 f9
  rintro σ' H7 ⟨m7, il, acc, o3, o5, f7, t7, rfl⟩
  have nH : H q = none := by
    cases y : H q with
    | none => rfl
    | some o => rw [e04 _ _ y] at nq; cases nq
  have e07 : Ex H H7 := fun a o h => m7 a o (fun z => by rw [z, nH] at h; cases h) (e06 _ _ h)
  rw [ul6, List.take_of_length_le (by unfold mixT; rw [List.length_map]; exact Nat.le_refl _)] at t7
  walk_at "uz"
  intro x3 dx3 nx nd3 ne3
  have e8 := ex_made (C := cW) nx nd3 ne3
  refine ⟨x3, dx3, q, acc, _, rfl, upd_same, .inl (.of (e8 _ _ f7)), .inl ⟨terms_im t7 e8.im, mix_good G G2 sg1, fun H9 m9 hw9 => ⟨rfl, ?_⟩⟩⟩
  exact k lost _ _ (fun a o h => m9 a o (fun z => by rw [z] at h; rw [e07 _ _ h] at nx; cases nx) (e8 _ _ (e07 _ _ h))) hw9
end

section
variable {P : Program} {w : World} {K : PySem.W.Frag} {mg : Str → Option Value} {base : Heap}
variable {cE cS cX cN cP cW cG cZ : Addr}
theorem ok_higher (T : Tp P K mg cE cS cX cN cP cW cG cZ)
    (c_mixed_worlds : Cal P w K mg base 6 "mixed_worlds" P_mixed_worlds [] (spMixedB K cW cS))
    {f : Addr} {fd : FuncData} {dvs : List V} (F : FunD K "higher" "higher" (defArgs s_higher) (defBody s_higher) (defScope s_higher) dvs [] f fd) : FnG P w K mg base 7 f fd P_higher (spHigherB K cW cS 1) := by
  refine fng F sc_higher (by walk_at "ulen") (fun cdv A outer s H vs Q E hr0 hg0 h => ?_)
  have hr : Rm 6 (A.deeper (envOfC "higher" (defScope s_higher) s.heap.objs.size f cdv)) := ⟨hr0, hg0⟩
  have nd : N_higher.Nodup := sc_higher.nd
  have tk : Takes (cxOf (L2.CX P w) P w K mg base N_higher "higher" (defScope s_higher) f cdv A outer s H E) (fun cls d _ H => E cls d H) := takes_of rfl rfl rfl rfl
  obtain ⟨v, w, ts, us, rfl, hv, hw, G, G2, ke, k⟩ := h
  refine ⟨_, (pss_one (ps_ret (pe_c c_mixed_worlds (hr.mono (by decide)) (fun σ => passAt tk σ) (pa_cons (pv 0) (pa_cons (pv 1) (pa_cons pe_int pa_nil)))))), ?_⟩
  walk_at "uk"
  walk_at "uz"
  exact ⟨v, w, ts, us, _, rfl, hv, hw, G, G2, .inl rfl, ke, k⟩
end

section
variable {P : Program} {w : World} {K : PySem.W.Frag} {mg : Str → Option Value} {base : Heap}
variable {cE cS cX cN cP cW cG cZ : Addr}
theorem ok_lower (T : Tp P K mg cE cS cX cN cP cW cG cZ)
    (c_mixed_worlds : Cal P w K mg base 6 "mixed_worlds" P_mixed_worlds [] (spMixedB K cW cS))
    {f : Addr} {fd : FuncData} {dvs : List V} (F : FunD K "lower" "lower" (defArgs s_lower) (defBody s_lower) (defScope s_lower) dvs [] f fd) : FnG P w K mg base 7 f fd P_lower (spHigherB K cW cS (-1)) := by
  refine fng F sc_lower (by walk_at "ulen") (fun cdv A outer s H vs Q E hr0 hg0 h => ?_)
  have hr : Rm 6 (A.deeper (envOfC "lower" (defScope s_lower) s.heap.objs.size f cdv)) := ⟨hr0, hg0⟩
  have nd : N_lower.Nodup := sc_lower.nd
  have tk : Takes (cxOf (L2.CX P w) P w K mg base N_lower "lower" (defScope s_lower) f cdv A outer s H E) (fun cls d _ H => E cls d H) := takes_of rfl rfl rfl rfl
  obtain ⟨v, w, ts, us, rfl, hv, hw, G, G2, ke, k⟩ := h
  refine ⟨_, (pss_one (ps_ret (pe_c c_mixed_worlds (hr.mono (by decide)) (fun σ => passAt tk σ) (pa_cons (pv 0) (pa_cons (pv 1) (pa_cons (pe_un un_neg pe_int) pa_nil)))))), ?_⟩
  walk_at "uk"
  walk_at "uz"
  exact ⟨v, w, ts, us, _, rfl, hv, hw, G, G2, .inr rfl, ke, k⟩
end

section
variable {P : Program} {w : World} {K : PySem.W.Frag} {mg : Str → Option Value} {base : Heap}
variable {cE cS cX cN cP cW cG cZ : Addr}
theorem ok_l_some (T : Tp P K mg cE cS cX cN cP cW cG cZ)
    (c_l_pick : Cal P w K mg base 1 "_law_pick" P_l_pick [] (spPick))
    {f : Addr} {fd : FuncData} {dvs : List V} (F : FunD K "_law_some" "_law_some" (defArgs s_l_some) (defBody s_l_some) (defScope s_l_some) dvs [] f fd) : FnG P w K mg base 2 f fd P_l_some (spSomeT) := by
  refine fng F sc_l_some (by walk_at "ulen") (fun cdv A outer s H vs Q E hr0 hg0 h => ?_)
  have hr : Rm 1 (A.deeper (envOfC "_law_some" (defScope s_l_some) s.heap.objs.size f cdv)) := ⟨hr0, hg0⟩
  have nd : N_l_some.Nodup := sc_l_some.nd
  obtain ⟨b, p, us, rfl, hb, hp, lu, k⟩ := h
  refine ⟨_, (pss_one (ps_ret (pe_lc (own := [("_law_thing", 2)]) (g := gName 2) (by rfl) nd (pi_list (pv 1)) (blkOk_by (own := [("_law_thing", 2)]) (N := N_l_some) (sc := defScope s_l_some) (by decide +kernel)) (fun s_ H_ C_ cl_ fp_ => pg_name (i := 2) nd rfl (Or.inl rfl)) (fun s_ H_ C_ cl_ fp_ => (pts_one (pt_cmpR (op_uEqK (K := K) rfl hr.r.units) (pe_c (E := En) c_l_pick (hr.mono (by decide)) paN (pa_cons (pv 0) (pa_cons pe_int pa_nil))) pe_int (nomark _)))) (fun s_ H_ C_ cl_ fp_ => (pv 2))))), ?_⟩
  walk_at "uk"
  walk_at "uz"
  refine ⟨p, rfl, ⟨_, .of hp⟩, lc_d us.length (fun D i acc H' => Kb b H H' ∧ H' p = some (.lst us) ∧ H' D = some (.lst acc) ∧ acc.Sublist (us.take i)) (fun D n => ?_) (fun D acc H' n h => ⟨_, .of h.2.1, Nat.le_refl _⟩) (fun D i acc H' n h z => ⟨_, _, .of h.2.1, List.getElem?_eq_getElem z⟩) (fun D acc H' n h => ?_) fun D i x acc H2 H' nD z h y => ?_⟩
  · have ne : p ≠ D := fun z => by rw [z, n] at hp; cases hp
    exact ⟨(Kb.refl hb).put n _, by rw [upd_ne ne]; exact hp, upd_same, List.nil_sublist _⟩
  · obtain ⟨kb, _, hD, sb⟩ := h
    rw [List.take_length] at sb
    walk_at "uz"
    exact k D acc H' kb sb hD n
  · obtain ⟨kb, hp2, hD, sb⟩ := h
    obtain ⟨rfl, y⟩ := y
    have ne : p ≠ D := fun z => by rw [z, nD] at hp; cases hp
    have hx : us[i]? = some x := y us (.of hp2)
    have tk : us.take (i + 1) = us.take i ++ [x] := by rw [List.take_add_one, hx]; rfl
    have al : acc.length ≤ 1000 := by
      have := sb.length_le
      rw [List.length_take] at this
      omega
    refine ⟨rfl, ?_⟩
    walk_at "uz"
    refine ⟨b, 2, rfl, kb.b1, by decide, by decide, fun r H3 r0 r1 k3 => ?_⟩
    have hD3 := k3.at hD fun _ z => by cases z
    have hp3 := k3.at hp2 fun _ z => by cases z
    have kb3 := kb.tr k3
    walk_at "uz"
    by_cases c : r = 0
    · rw [decide_eq_true c]
      walk_at "uz"
      refine ⟨acc, hD3, by show _ < 16777216; omega, _, kb3.put nD _, by rw [upd_ne ne]; exact hp3, upd_same, ?_⟩
      rw [tk]
      exact sb.append (List.Sublist.refl _)
    · rw [decide_eq_false c]
      walk_at "uz"
      refine ⟨acc, kb3, hp3, hD3, ?_⟩
      rw [tk]
      exact sb.trans (List.sublist_append_left _ _)
end

theorem low_sg {c : Nat} (h : c ∈ ("abcdefghijklmnopqrstuvwxyzAZ09 _-" : Str).cps.toList) : c < 1114112 := by
  have h6 : ∀ d ∈ ("abcdefghijklmnopqrstuvwxyzAZ09 _-" : Str).cps.toList, d < 1114112 := by decide +kernel
  exact h6 c h
theorem strOk_sg {cs : List Nat} (h : ∀ c ∈ cs, c < 1114112) : PyData.strOk ⟨cs.toArray⟩ = true := by
  unfold PyData.strOk
  rw [Array.all_eq_true]
  intro i hi
  have := h (cs.toArray[i]) (by simp)
  simpa using this
theorem join_signs (cs : List Nat) : Txt.join "" (cs.map fun c => (⟨#[c]⟩ : Str)) = ⟨cs.toArray⟩ := by
  refine TL.ext_tl ?_
  rw [TL.join_eq, TL.tl_join]
  show TL.joinL [] ((cs.map fun c => (⟨#[c]⟩ : Str)).map TL.tl) = cs
  induction cs with
  | nil => rfl
  | cons c r ih =>
    cases r with
    | nil => rfl
    | cons d r => exact congrArg (c :: ·) ih
theorem sum_signs (cs : List Nat) : ((cs.map fun c => (⟨#[c]⟩ : Str)).map (fun x => x.length)).sum = cs.length := by
  induction cs with
  | nil => rfl
  | cons c r ih => rw [List.map_cons, List.map_cons, List.sum_cons, ih, List.length_cons]; show 1 + r.length = _; omega
section
variable {P : Program} {w : World} {K : PySem.W.Frag} {mg : Str → Option Value} {base : Heap}
variable {cE cS cX cN cP cW cG cZ : Addr}
theorem ok_l_word_drawn (T : Tp P K mg cE cS cX cN cP cW cG cZ)
    (c_l_choice : Cal P w K mg base 2 "_law_choice" P_l_choice [] (spChoice K))
    (c_l_pick : Cal P w K mg base 1 "_law_pick" P_l_pick [] (spPick))
    {f : Addr} {fd : FuncData} {dvs : List V} (F : FunD K "_law_word_drawn" "_law_word_drawn" (defArgs s_l_word_drawn) (defBody s_l_word_drawn) (defScope s_l_word_drawn) dvs [] f fd) : FnG P w K mg base 3 f fd P_l_word_drawn (spWordD) := by
  refine fng F sc_l_word_drawn (by walk_at "ulen") (fun cdv A outer s H vs Q E hr0 hg0 h => ?_)
  have hr : Rm 2 (A.deeper (envOfC "_law_word_drawn" (defScope s_l_word_drawn) s.heap.objs.size f cdv)) := ⟨hr0, hg0⟩
  have nd : N_l_word_drawn.Nodup := sc_l_word_drawn.nd
  obtain ⟨b, rfl, hb, k⟩ := h
  refine ⟨_, (pss_cons (ps_set (i := 1) nd rfl (Or.inr rfl) pe_str)
    (pss_one (ps_ret (pe_join pe_str (pe_lc (own := [("_law_k", 2)]) (g := gName 2) (by rfl) nd (pi_range1 (by rfl) T.range (pa_cons (pe_c (E := En) c_l_pick (hr.mono (by decide)) paN (pa_cons (pv 0) (pa_cons pe_int pa_nil))) pa_nil)) (blkOk_by (own := [("_law_k", 2)]) (N := N_l_word_drawn) (sc := defScope s_l_word_drawn) (by decide +kernel)) (fun s_ H_ C_ cl_ fp_ => pg_name (i := 2) nd rfl (Or.inl rfl)) (fun s_ H_ C_ cl_ fp_ => pts_nil) (fun s_ H_ C_ cl_ fp_ => (pe_c (E := En) c_l_choice (hr.mono (by decide)) paN (pa_cons (pv 0) (pa_cons (pv 1) pa_nil))))))))), ?_⟩
  walk_at "uk"
  walk_at "uz"
  refine ⟨b, 5, rfl, hb, by decide, by decide, fun m H1 m0 m1 k1 => ?_⟩
  walk_at "uz"
  refine ⟨m, rfl, by omega, by omega, ?_⟩
  refine lcRng (fun D i acc H' => Kb b H1 H' ∧ H' D = some (.lst acc) ∧ ∃ cs : List Nat, cs.length = i ∧ acc = cs.map (fun c => V.str ⟨#[c]⟩) ∧ ∀ c ∈ cs, c < 1114112) (fun D hD => ⟨(Kb.refl k1.b1).put hD _, upd_same, [], rfl, rfl, fun c hc => by cases hc⟩) ?_ ?_
  · rintro D acc H' hD ⟨kh, hd, cs, hl, rfl, hc⟩
    refine ⟨"", D, cs.map (fun c => (⟨#[c]⟩ : Str)), rfl, rfl, .inl (.of (by rw [List.map_map]; exact hd)), by rw [sum_signs]; show cs.length + _ * 0 ≤ _; omega, ?_⟩
    walk_at "uz"
    rw [join_signs]
    exact k _ _ (k1.tr kh) (by show cs.toArray.size ≤ 4; rw [List.size_toArray]; omega) (strOk_sg hc)
  · rintro D i acc H' hD hi ⟨kh, hd, cs, hl, rfl, hc⟩
    walk_at "uz"
    refine ⟨rfl, ?_⟩
    walk_at "uz"
    refine ⟨b, kh.b1, .inr ⟨_, rfl, by decide, by decide, fun c H2 hm k2 => ?_⟩⟩
    have k3 := kh.tr k2
    exact ⟨_, k2.at hd (fun _ z => by cases z), by rw [List.length_map]; show _ < 16777216; omega, _, k3.put hD _, upd_same, cs ++ [c], by rw [List.length_append, hl]; rfl, by rw [List.map_append]; rfl, fun c' h' => by
      rcases List.mem_append.mp h' with h' | h'
      · exact hc c' h'
      · rw [List.mem_singleton.mp h']
        exact low_sg hm⟩
end

section
variable {P : Program} {w : World} {K : PySem.W.Frag} {mg : Str → Option Value} {base : Heap}
variable {cE cS cX cN cP cW cG cZ : Addr}
theorem ok_l_whole (T : Tp P K mg cE cS cX cN cP cW cG cZ)
    (c_l_pick : Cal P w K mg base 1 "_law_pick" P_l_pick [] (spPick))
    {f : Addr} {fd : FuncData} {dvs : List V} (F : FunD K "_law_whole" "_law_whole" (defArgs s_l_whole) (defBody s_l_whole) (defScope s_l_whole) dvs [] f fd) : FnG P w K mg base 2 f fd P_l_whole (spWholeD) := by
  refine fng F sc_l_whole (by walk_at "ulen") (fun cdv A outer s H vs Q E hr0 hg0 h => ?_)
  have hr : Rm 1 (A.deeper (envOfC "_law_whole" (defScope s_l_whole) s.heap.objs.size f cdv)) := ⟨hr0, hg0⟩
  have nd : N_l_whole.Nodup := sc_l_whole.nd
  obtain ⟨b, rfl, hb, k⟩ := h
  refine ⟨_, (pss_cons (ps_set (i := 1) nd rfl (Or.inl rfl) (pe_c (E := En) c_l_pick (hr.mono (by decide)) paN (pa_cons (pv 0) (pa_cons pe_int pa_nil))))
    (pss_cons (ps_if (pt_cmpR (op_uEq hr.r.units) (pv 1) pe_int (nomark _)) (pss_one (ps_ret (pe_op op_sub (pe_op op_sub pe_int pe_int) (pe_c (E := En) c_l_pick (hr.mono (by decide)) paN (pa_cons (pv 0) (pa_cons pe_int pa_nil)))))) pss_nil)
    (pss_cons (ps_if (pt_cmpR (op_uEq hr.r.units) (pv 1) pe_int (nomark _)) (pss_one (ps_ret (pe_op op_sub (pe_op op_uMul (pe_c (E := En) c_l_pick (hr.mono (by decide)) paN (pa_cons (pv 0) (pa_cons (pe_op op_pow pe_int pe_int) pa_nil))) (pe_op op_pow pe_int pe_int)) (pe_op op_uMul pe_int (pe_op op_pow pe_int pe_int))))) pss_nil)
    (pss_one (ps_ret (pe_c (E := En) c_l_pick (hr.mono (by decide)) paN (pa_cons (pv 0) (pa_cons pe_int pa_nil)))))))), ?_⟩
  walk_at "uk"
  walk_at "uz"
  refine ⟨b, 8, rfl, hb, by decide, by decide, fun way H1 w0 w4 k1 => ?_⟩
  walk_at "uz"
  refine s_ite (fun c => ?_) (fun c => ?_)
  · walk_at "uz"
    refine ⟨b, 4, rfl, k1.b1, by decide, by decide, fun n H2 n0 n1 k2 => ?_⟩
    walk_at "uz"
    exact k _ H2 (k1.tr k2) (by omega)
  · walk_at "uz"
    refine s_ite (fun c2 => ?_) (fun c2 => ?_)
    · walk_at "uz"
      refine ⟨b, _, rfl, k1.b1, by decide, by decide, fun n H2 n0 n1 k2 => ?_⟩
      have n1' : n < (10 : Int) ^ 8 := n1
      walk_at "uz"
      refine k _ H2 (k1.tr k2) ?_
      show (n * (10 : Int) ^ 6 - 5 * (10 : Int) ^ 13).natAbs ≤ _
      omega
    · walk_at "uz"
      refine ⟨b, 6, rfl, k1.b1, by decide, by decide, fun n H2 n0 n1 k2 => ?_⟩
      walk_at "uz"
      exact k _ H2 (k1.tr k2) (by omega)
end

theorem nodup_sub {α : Type} [DecidableEq α] : ∀ {xs ys : List α}, xs.Nodup → (∀ x ∈ xs, x ∈ ys) → xs.length ≤ ys.length
  | [], _, _, _ => Nat.zero_le _
  | x :: xs, ys, nd, h => by
    obtain ⟨n1, n2⟩ := List.nodup_cons.mp nd
    have m := h x List.mem_cons_self
    have ih := nodup_sub (ys := ys.erase x) n2 fun y my => (List.mem_erase_of_ne (fun e : y = x => n1 (by rw [← e]; exact my))).mpr (h y (List.mem_cons_of_mem _ my))
    rw [List.length_erase_of_mem m] at ih
    have := List.length_pos_of_mem m
    rw [List.length_cons]
    omega
theorem at_end {xs : List V} {i : Nat} (h : xs.length = i + 1) : ∃ v, atI xs (-1) = some v ∧ xs[i]? = some v := by
  obtain ⟨l, v, rfl⟩ : ∃ l v, xs = l ++ [v] := ⟨xs.dropLast, xs.getLast (by intro z; rw [z] at h; cases h), (List.dropLast_concat_getLast _).symm⟩
  have e : l.length = i := by simpa using h
  exact ⟨v, atI_last l v, by rw [List.getElem?_append_right (by omega), e, Nat.sub_self]; rfl⟩
/-- so many spots in a row are not all among the others -/
theorem run_len {zs : List Spot} {f : Nat → Spot} (inj : ∀ i j, f i = f j → i = j) {n : Nat} (h : ∀ i, i < n → f i ∈ zs) : n ≤ zs.length := by
  have e := nodup_sub (xs := (List.range n).map f) (ys := zs) (by
    rw [List.Nodup, List.pairwise_map]
    exact List.nodup_range.imp fun {a b} ne q => ne (inj a b q)) (fun x m => by
    obtain ⟨i, mi, rfl⟩ := List.mem_map.mp m
    exact h i (List.mem_range.mp mi))
  rw [List.length_map, List.length_range] at e
  exact e
theorem ground_len : (("ground" : Str)).length ≤ 10 ∧ PyData.strOk "ground" = true := by decide +kernel
section
variable {P : Program} {w : World} {K : PySem.W.Frag} {mg : Str → Option Value} {base : Heap}
variable {cE cS cX cN cP cW cG cZ : Addr}
theorem ok_l_some_spots (T : Tp P K mg cE cS cX cN cP cW cG cZ)
    (c_l_ground : Cal P w K mg base 1 "_law_ground" P_l_ground [] (spGround))
    (c_l_pick : Cal P w K mg base 1 "_law_pick" P_l_pick [] (spPick))
    (c_l_whole : Cal P w K mg base 2 "_law_whole" P_l_whole [] (spWholeD))
    (c_l_word_drawn : Cal P w K mg base 3 "_law_word_drawn" P_l_word_drawn [] (spWordD))
    {f : Addr} {fd : FuncData} {dvs : List V} (F : FunD K "_law_some_spots" "_law_some_spots" (defArgs s_l_some_spots) (defBody s_l_some_spots) (defScope s_l_some_spots) dvs [] f fd) : FnG P w K mg base 4 f fd P_l_some_spots (spSpotsD) := by
  refine fng F sc_l_some_spots (by walk_at "ulen") (fun cdv A outer s H vs Q E hr0 hg0 h => ?_)
  have hr : Rm 3 (A.deeper (envOfC "_law_some_spots" (defScope s_l_some_spots) s.heap.objs.size f cdv)) := ⟨hr0, hg0⟩
  have nd : N_l_some_spots.Nodup := sc_l_some_spots.nd
  have po : PassesOwn (model P w) (cxOf (L2.CX P w) P w K mg base N_l_some_spots "_law_some_spots" (defScope s_l_some_spots) f cdv A outer s H E).A (cxOf (L2.CX P w) P w K mg base N_l_some_spots "_law_some_spots" (defScope s_l_some_spots) f cdv A outer s H E).env (cxOf (L2.CX P w) P w K mg base N_l_some_spots "_law_some_spots" (defScope s_l_some_spots) f cdv A outer s H E).xe := passes_of rfl
  obtain ⟨b, m, rfl, hb, m9, k⟩ := h
  refine ⟨_, (pss_cons (ps_set (i := 2) nd rfl (Or.inl rfl) (pe_lst (pa_cons (pe_c0 c_l_ground (hr.mono (by decide)) (E := En) paN) pa_nil)))
    (pss_cons (ps_for po rfl (pi_range1 (by rfl) T.range (pa_cons (pv 1) pa_nil)) (pg_name (i := 3) nd rfl (Or.inl rfl))
    (pss_cons (ps_set (i := 4) nd rfl (Or.inl rfl) (pe_c (E := En) c_l_word_drawn (hr.mono (by decide)) paN (pa_cons (pv 0) pa_nil)))
    (pss_cons (ps_set (i := 5) nd rfl (Or.inl rfl) (pe_c (E := En) c_l_pick (hr.mono (by decide)) paN (pa_cons (pv 0) (pa_cons pe_int pa_nil))))
    (pss_consJ (ps_if (pt_cmpR (op_uEq hr.r.units) (pv 5) pe_int (nomark _)) (pss_one (ps_set (i := 4) nd rfl (Or.inl rfl) pe_str)) pss_nil)
    (pss_consJ (ps_if (PW.pt (pw_or (pt_cmpR (op_uEq hr.r.units) (pv 5) pe_int (nomark _)) (pw_or1 (pt_cmpR (op_uEq hr.r.units) (pv 5) pe_int (nomark _))))) (pss_one (ps_set (i := 4) nd rfl (Or.inl rfl) (pe_ix ix_seq (pe_ix ix_seq (pv 2) (pe_un un_neg pe_int) (fun _ _ => rfl)) pe_int (fun _ _ => rfl)))) pss_nil)
    (pss_cons (ps_set (i := 6) nd rfl (Or.inl rfl) (pe_tup (pa_cons (pv 4) (pa_cons (pe_c (E := En) c_l_whole (hr.mono (by decide)) paN (pa_cons (pv 0) pa_nil)) (pa_cons (pe_c (E := En) c_l_whole (hr.mono (by decide)) paN (pa_cons (pv 0) pa_nil)) pa_nil)))))
    (pss_cons (ps_for po rfl (pi_range1 (by rfl) T.range (pa_cons (pe_op op_uAdd (pv 1) pe_int) pa_nil)) (pg_name (i := 7) nd rfl (Or.inl rfl))
    (pss_cons (ps_if (pt_cmpR (op_notInD (hu65 hr.r)) (pv 6) (pv 2) rfl) (pss_one ps_break) pss_nil)
    (pss_one (ps_set (i := 6) nd rfl (Or.inl rfl) (pe_tup (pa_cons (pv 4) (pa_cons (pe_ix ix_seq (pv 6) pe_int (fun _ _ => rfl)) (pa_cons (pe_op op_uAdd (pe_ix ix_seq (pv 6) pe_int (fun _ _ => rfl)) pe_int) pa_nil))))))))
    (pss_one (ps_expr (pe_bm PySem.F.plainAttrs_list PySem.F.slot_list_append PySem.F.type_list_append mt_append (pv 2) (pa_cons (pv 6) pa_nil)))))))))))
    (pss_one (ps_ret (pv 2))))), ?_⟩
  walk_at "uk"
  walk_at "uz"
  refine s_lstE ?_
  walk_at "uz"
  refine ⟨rfl, fun g H1 e1 sg => ?_⟩
  walk_at "uz"
  refine s_szN (Nat.le_of_ble_eq_true rfl) fun q nq => s_nw nq fun H2 e2 f2 => ?_
  have nqH : H q = none := by
    cases y : H q with
    | none => rfl
    | some o => rw [e1 _ _ y] at nq; cases nq
  walk_at "uz"
  refine ⟨m, rfl, by omega, by omega, ?_⟩
  refine loopR (n := (m : Int).toNat) (fun i σ' H' => Kb b H H' ∧ ∃ (us : List V) (zs : List Spot) (o3 o4 o5 o6 o7 : Option V), H' q = some (.lst us) ∧ SpotsX H' us zs ∧ zs.Nodup ∧ zs[0]? = some gr ∧ (∀ z ∈ zs, SpOk z ∧ z.1.length ≤ 10 ∧ z.2.1.natAbs ≤ 10 ^ 15 ∧ z.2.2.natAbs ≤ 10 ^ 14 + 20) ∧ zs.length = i + 1 ∧ σ' = [some (.ref b), some (.int (m : Nat)), some (.ref q), o3, o4, o5, o6, o7]) ⟨kb_e (kb_e (Kb.refl hb) e1) e2, _, [gr], none, none, none, none, none, f2, SpotsX.app SpotsX.nil (spot_im sg e2.im), by simp, rfl, (fun z hz => by rw [List.mem_singleton.mp hz]; exact ⟨by decide +kernel, by decide +kernel, by decide, by decide⟩), rfl, rfl⟩ ?_ ?_
  · rintro σ' H3 ⟨k3, us, zs, o3, o4, o5, o6, o7, hq3, hx3, nd3, g3, ok3, l3, rfl⟩
    walk_at "uz"
    exact k q us zs H3 k3 hq3 hx3 ⟨nd3, g3, fun z hz => let ⟨a, b, c, d⟩ := ok3 z hz; ⟨a, b, Nat.le_trans c (by decide), Nat.le_trans d (by decide)⟩, by omega⟩
  rintro i σ' H3 hi ⟨k3, us, zs, o3, o4, o5, o6, o7, hq3, hx3, nd3, g3, ok3, l3, rfl⟩
  have im : i < m := by omega
  walk_at "uz"
  refine ⟨b, rfl, k3.b1, fun nm H4 k4 nl no => ?_⟩
  walk_at "uz"
  refine ⟨b, 6, rfl, k4.b1, by decide, by decide, fun way H5 w0 w6 k5 => ?_⟩
  have k45 := k4.tr k5
  have hq5 := k45.at hq3 fun _ z => by cases z
  have hx5 := spots_im hx3 k45.im
  have k05 := k3.tr k45
  walk_at "uj"
  refine s_seqJ (fun σ' H' => H' = H5 ∧ ∃ nm : Str, nm.length ≤ 10 ∧ PyData.strOk nm = true ∧ σ' = [some (.ref b), some (.int (m : Nat)), some (.ref q), some (.int (i : Nat)), some (.str nm), some (.int way), o6, o7]) ?_ (fun R hR => ?_)
  rotate_left
  · walk_at "uz"
    refine s_ite (fun c => ?_) (fun c => ?_)
    · walk_at "uz"
      rw [Int.zero_add]
      exact hR _ _ ⟨rfl, _, ground_len.1, ground_len.2, rfl⟩
    · walk_at "uz"
      rw [Int.zero_add]
      exact hR _ _ ⟨rfl, nm, by omega, no, rfl⟩
  rintro σ' H' ⟨rfl, nm2, nl2, no2, rfl⟩
  clear nl no nm
  walk_at "uj"
  refine s_seqJ (fun σ' H'' => H'' = H' ∧ ∃ nm : Str, nm.length ≤ 10 ∧ PyData.strOk nm = true ∧ σ' = [some (.ref b), some (.int (m : Nat)), some (.ref q), some (.int (i : Nat)), some (.str nm), some (.int way), o6, o7]) ?_ (fun R hR => ?_)
  rotate_left
  · obtain ⟨v, hv, hvi⟩ := at_end (xs := us) (i := i) (by rw [hx3.len]; exact l3)
    obtain ⟨z, hz⟩ : ∃ z, zs[i]? = some z := ⟨_, List.getElem?_eq_getElem (by omega)⟩
    obtain ⟨sq, rfl, hsq⟩ := hx5.at_ i v z hvi hz
    obtain ⟨a1, a2, _⟩ := ok3 z (List.mem_of_getElem? hz)
    walk_at "uz"
    refine s_ite (fun c => ?_) (fun c => ?_)
    · walk_at "uz"
      refine s_ixL (.of hq5) hv ?_
      walk_at "uz"
      exact hR _ _ ⟨rfl, z.1, a2, a1, rfl⟩
    · walk_at "uz"
      refine s_ite (fun c2 => ?_) (fun c2 => ?_)
      · walk_at "uz"
        refine s_ixL (.of hq5) hv ?_
        walk_at "uz"
        exact hR _ _ ⟨rfl, z.1, a2, a1, rfl⟩
      · walk_at "uz"
        exact hR _ _ ⟨rfl, nm2, nl2, no2, rfl⟩
  rintro σ' H6 ⟨rfl, nm3, nl3, no3, rfl⟩
  clear nl2 no2 nm2
  walk_at "uz"
  refine s_tupE ?_
  walk_at "uz"
  refine ⟨b, rfl, k05.b1, fun x H7 k7 xb => ?_⟩
  walk_at "uz"
  refine ⟨b, rfl, k7.b1, fun y H8 k8 yb => ?_⟩
  walk_at "uz"
  refine s_szN (Nat.le_of_ble_eq_true rfl) fun t1 nt => s_nw nt fun H9 e9 f9 => ?_
  have k69 := kb_e (k7.tr k8) e9
  have k09 := k05.tr k69
  have hq9 := k69.at hq5 fun _ z => by cases z
  have hx9 := spots_im hx5 k69.im
  clear hq5 hx5 k7 k8
  walk_at "uz"
  refine ⟨_, rfl, by omega, by omega, ?_⟩
  refine loopR (n := ((m : Int) + 1).toNat) (fun j σ' H' => Ex H9 H' ∧ (∀ l : Nat, l < j → ((nm3, x, y + (l : Nat)) : Spot) ∈ zs) ∧ ∃ (t : Addr) (o7 : Option V), H' t = some (.tup (vS (nm3, x, y + (j : Nat)))) ∧ σ' = [some (.ref b), some (.int (m : Nat)), some (.ref q), some (.int (i : Nat)), some (.str nm3), some (.int way), some (.ref t), o7]) ⟨exR _, (fun l hl => absurd hl (Nat.not_lt_zero _)), t1, _, by rw [show y + ((0 : Nat) : Int) = y by simp]; exact f9, rfl⟩ ?_ ?_
  · rintro σ' H10 ⟨_, all, _⟩
    have := run_len (zs := zs) (f := fun l => (nm3, x, y + (l : Nat))) (fun a b e => by
      have : y + (a : Int) = y + (b : Int) := congrArg (fun z : Spot => z.2.2) e
      omega) all
    omega
  rintro j σ' H10 hj ⟨e10, all, t, o7, ft, rfl⟩
  have jm : j ≤ m := by omega
  have hq10 := e10 _ _ hq9
  have hx10 := spots_im hx9 e10.im
  have s10 : SpotX H10 (.ref t) (nm3, x, y + (j : Nat)) := ⟨t, rfl, ft⟩
  walk_at "uz"
  refine notin_spots s10 (.of hq10) hx10 (fun z hz => (ok3 z hz).1) no3 ?_
  walk_at "uz"
  refine s_iteN (fun c => ?_) (fun c => ?_)
  · walk_at "uz"
    refine s_tyL (.of hq10) ?_
    walk_at "uz"
    have ul := hx10.len
    refine s_app hq10 (by show _ < 16777216; omega) ?_
    refine s_mw hq10 fun H11 m11 i11 f11 => ?_
    refine ⟨kb_mx nqH (kb_e k09 e10) m11 f11, _, zs ++ [(nm3, x, y + (j : Nat))], _, _, _, _, _, f11, SpotsX.app (spots_im hx10 i11) (spot_im s10 i11), ?_, ?_, ?_, ?_, rfl⟩
    · exact List.nodup_append.mpr ⟨nd3, by simp, fun a ha b hb => by rw [List.mem_singleton.mp hb]; exact fun z => c (z ▸ ha)⟩
    · rw [List.getElem?_append_left (by omega)]; exact g3
    · intro z hz
      rcases List.mem_append.mp hz with hz | hz
      · exact ok3 z hz
      · rw [List.mem_singleton.mp hz]
        exact ⟨no3, nl3, Nat.le_trans xb (by decide), by show (y + (j : Int)).natAbs ≤ _; omega⟩
    · rw [List.length_append, l3]
      rfl
  · walk_at "uz"
    refine s_tupE ?_
    walk_at "uz"
    refine s_szN (Nat.le_of_ble_eq_true rfl) fun t2 nt2 => s_nw nt2 fun H11 e11 f11 => ?_
    have z10 := c
    walk_at "uz"
    exact ⟨e10.tr e11, fun l hl => by
      by_cases q2 : l = j
      · rw [q2]; exact z10
      · exact all l (by omega), t2, _, by rw [show y + ((j + 1 : Nat) : Int) = y + (j : Nat) + 1 by push_cast; omega]; exact f11, rfl⟩
end

section
variable {P : Program} {w : World} {K : PySem.W.Frag} {mg : Str → Option Value} {base : Heap}
variable {cE cS cX cN cP cW cG cZ : Addr}
theorem ok_l_stranger (T : Tp P K mg cE cS cX cN cP cW cG cZ)
    (c_l_choice : Cal P w K mg base 2 "_law_choice" P_l_choice [] (spChoice K))
    (c_l_whole : Cal P w K mg base 2 "_law_whole" P_l_whole [] (spWholeD))
    {f : Addr} {fd : FuncData} {dvs : List V} (F : FunD K "_law_stranger" "_law_stranger" (defArgs s_l_stranger) (defBody s_l_stranger) (defScope s_l_stranger) dvs [] f fd) : FnG P w K mg base 3 f fd P_l_stranger (spStrangerD) := by
  refine fng F sc_l_stranger (by walk_at "ulen") (fun cdv A outer s H vs Q E hr0 hg0 h => ?_)
  have hr : Rm 2 (A.deeper (envOfC "_law_stranger" (defScope s_l_stranger) s.heap.objs.size f cdv)) := ⟨hr0, hg0⟩
  have nd : N_l_stranger.Nodup := sc_l_stranger.nd
  have po : PassesOwn (model P w) (cxOf (L2.CX P w) P w K mg base N_l_stranger "_law_stranger" (defScope s_l_stranger) f cdv A outer s H E).A (cxOf (L2.CX P w) P w K mg base N_l_stranger "_law_stranger" (defScope s_l_stranger) f cdv A outer s H E).env (cxOf (L2.CX P w) P w K mg base N_l_stranger "_law_stranger" (defScope s_l_stranger) f cdv A outer s H E).xe := passes_of rfl
  obtain ⟨b, p, us, zs, rfl, hb, hp, hx, z0, z10, ok, k⟩ := h
  have ul := hx.len
  refine ⟨_, (pss_cons (ps_set (i := 2) nd rfl (Or.inl rfl) (pe_tup (pa_cons (pe_ix ix_seq (pe_c (E := En) c_l_choice (hr.mono (by decide)) paN (pa_cons (pv 0) (pa_cons (pv 1) pa_nil))) pe_int (fun _ _ => rfl)) (pa_cons (pe_c (E := En) c_l_whole (hr.mono (by decide)) paN (pa_cons (pv 0) pa_nil)) (pa_cons (pe_c (E := En) c_l_whole (hr.mono (by decide)) paN (pa_cons (pv 0) pa_nil)) pa_nil)))))
    (pss_cons (ps_for po rfl (pi_range1 (by rfl) T.range (pa_cons (pe_op op_uAdd (pe_callB call_uLen (by rfl) T.len b_len (pa_cons (pv 1) pa_nil)) pe_int) pa_nil)) (pg_name (i := 3) nd rfl (Or.inl rfl))
    (pss_cons (ps_if (pt_cmpR (op_notInD (hu65 hr.r)) (pv 2) (pv 1) rfl) (pss_one ps_break) pss_nil)
    (pss_one (ps_set (i := 2) nd rfl (Or.inl rfl) (pe_tup (pa_cons (pe_ix ix_seq (pv 2) pe_int (fun _ _ => rfl)) (pa_cons (pe_op op_uAdd (pe_ix ix_seq (pv 2) pe_int (fun _ _ => rfl)) pe_int) (pa_cons (pe_ix ix_seq (pv 2) pe_int (fun _ _ => rfl)) pa_nil))))))))
    (pss_one (ps_ret (pv 2))))), ?_⟩
  walk_at "uk"
  walk_at "uz"
  refine s_tupE ?_
  walk_at "uz"
  refine ⟨b, hb, .inl ⟨p, us, rfl, .of hp, by omega, by omega, fun v H1 hv k1 => ?_⟩⟩
  obtain ⟨i0, hi0⟩ := List.mem_iff_getElem?.mp hv
  obtain ⟨w0, hw0⟩ : ∃ w, zs[i0]? = some w := ⟨_, List.getElem?_eq_getElem (by have := (List.getElem?_eq_some_iff.mp hi0).1; omega)⟩
  obtain ⟨sq, rfl, hsq⟩ := spot_im (hx.at_ i0 v w0 hi0 hw0) k1.im
  have B0 := ok w0 (List.mem_of_getElem? hw0)
  walk_at "uz"
  refine ⟨b, rfl, k1.b1, fun x H7 k7 xb => ?_⟩
  walk_at "uz"
  refine ⟨b, rfl, k7.b1, fun y H8 k8 yb => ?_⟩
  walk_at "uz"
  refine s_szN (Nat.le_of_ble_eq_true rfl) fun t1 nt => s_nw nt fun H9 e9 f9 => ?_
  have k09 := kb_e (k1.tr (k7.tr k8)) e9
  have hp9 := k09.at hp fun _ z => by cases z
  have hx9 := spots_im hx k09.im
  clear hsq k1 k7 k8
  walk_at "uz"
  rw [ul]
  refine ⟨_, rfl, by omega, by omega, ?_⟩
  refine loopR (n := ((zs.length : Int) + 1).toNat) (fun j σ' H' => Ex H9 H' ∧ (∀ l : Nat, l < j → ((w0.1, x + (l : Nat), y) : Spot) ∈ zs) ∧ ∃ (t : Addr) (o3 : Option V), H' t = some (.tup (vS (w0.1, x + (j : Nat), y))) ∧ σ' = [some (.ref b), some (.ref p), some (.ref t), o3]) ⟨exR _, (fun l hl => absurd hl (Nat.not_lt_zero _)), t1, _, by rw [show x + ((0 : Nat) : Int) = x by simp]; exact f9, rfl⟩ ?_ ?_
  · rintro σ' H10 ⟨_, all, _⟩
    have := run_len (zs := zs) (f := fun l => (w0.1, x + (l : Nat), y)) (fun a b e => by
      have : x + (a : Int) = x + (b : Int) := congrArg (fun z : Spot => z.2.1) e
      omega) all
    omega
  rintro j σ' H10 hj ⟨e10, all, t, o7, ft, rfl⟩
  have hp10 := e10 _ _ hp9
  have hx10 := spots_im hx9 e10.im
  have s10 : SpotX H10 (.ref t) (w0.1, x + (j : Nat), y) := ⟨t, rfl, ft⟩
  walk_at "uz"
  refine notin_spots s10 (.of hp10) hx10 (fun z hz => (ok z hz).ok) B0.ok ?_
  walk_at "uz"
  refine s_iteN (fun c => ?_) (fun c => ?_)
  · walk_at "uz"
    exact k _ _ H10 (kb_e k09 e10) s10 c B0.ok B0.len (by show (x + (j : Int)).natAbs ≤ _; omega) yb
  · walk_at "uz"
    refine s_tupE ?_
    walk_at "uz"
    refine s_szN (Nat.le_of_ble_eq_true rfl) fun t2 nt2 => s_nw nt2 fun H11 e11 f11 => ?_
    walk_at "uz"
    exact ⟨e10.tr e11, fun l hl => by
      by_cases q2 : l = j
      · rw [q2]; exact c
      · exact all l (by omega), t2, _, by rw [show x + ((j + 1 : Nat) : Int) = x + (j : Nat) + 1 by push_cast; omega]; exact f11, rfl⟩
end

section
variable {P : Program} {w : World} {K : PySem.W.Frag} {mg : Str → Option Value} {base : Heap}
variable {cE cS cX cN cP cW cG cZ : Addr}
theorem ok_l_spot_like (T : Tp P K mg cE cS cX cN cP cW cG cZ)
    (c_l_integer : Cal P w K mg base 1 "_law_integer" P_l_integer [] (spInteger K))
    {f : Addr} {fd : FuncData} {dvs : List V} (F : FunD K "_law_spot_like" "_law_spot_like" (defArgs s_l_spot_like) (defBody s_l_spot_like) (defScope s_l_spot_like) dvs [] f fd) : FnG P w K mg base 2 f fd P_l_spot_like (spIsSpot K) := by
  refine fng F sc_l_spot_like (by walk_at "ulen") (fun cdv A outer s H vs Q E hr0 hg0 h => ?_)
  have hr : Rm 1 (A.deeper (envOfC "_law_spot_like" (defScope s_l_spot_like) s.heap.objs.size f cdv)) := ⟨hr0, hg0⟩
  have nd : N_l_spot_like.Nodup := sc_l_spot_like.nd
  obtain ⟨v, d, rfl, hd, k⟩ := h
  refine ⟨_, (pss_cons (ps_if (PW.pt (pw_or (pt_not (pt_val (pe_callB call_isi (by rfl) T.isinstance b_isinstance (pa_cons (pv 0) (pa_cons (pe_bltn (v := .ty "tuple") (by rfl) T.tuple b_tuple rfl) pa_nil))))) (pw_or (pt_cmpR (op_uNe hr.r.units) (pe_callB call_uLen (by rfl) T.len b_len (pa_cons (pv 0) pa_nil)) pe_int (nomark _)) (pw_or1 (pt_not (pt_val (pe_callB call_isi (by rfl) T.isinstance b_isinstance (pa_cons (pe_ix ix_seq (pv 0) pe_int (fun _ _ => rfl)) (pa_cons (pe_bltn (v := .ty "str") (by rfl) T.str b_str rfl) pa_nil))))))))) (pss_one (ps_ret pe_bl)) pss_nil)
    (pss_one (ps_ret (pe_and (pe_c (E := En) c_l_integer (hr.mono (by decide)) paN (pa_cons (pe_ix ix_seq (pv 0) pe_int (fun _ _ => rfl)) pa_nil)) (pe_one (pe_c (E := En) c_l_integer (hr.mono (by decide)) paN (pa_cons (pe_ix ix_seq (pv 0) pe_int (fun _ _ => rfl)) pa_nil))))))), ?_⟩
  cases d with
  | tuple ds =>
    have hd0 := hd
    cases hd with
    | @tup a xs _ hs ha =>
      walk_at "uk"
      walk_at "uz"
      refine s_isTup hd0 ?_
      walk_at "uz"
      have hl := dpa_length ha
      refine s_iteN (fun e => ?_) (fun e => ?_)
      · walk_at "uz"
        rw [show isSpotD (.tuple ds) = false by
          match ds, hl with
          | [_, _, _], hl => exact absurd (by rw [hl]; rfl) e
          | [], _ => rfl
          | [_], _ => rfl
          | [_, _], _ => rfl
          | _ :: _ :: _ :: _ :: _, _ => rfl] at k
        exact k
      · match ds, xs, ha, hl with
        | [d0, d1, d2], [x0, x1, x2], .cons h0 (.cons h1 (.cons h2 .nil)), _ =>
          have k' : Q (.bl (isStrD d0 && (isIntegerD d1 none none && isIntegerD d2 none none))) H := k
          walk_at "uz"
          refine s_isStr h0 ?_
          walk_at "uz"
          cases c0 : isStrD d0 with
          | false =>
            rw [c0] at k'
            walk_at "uz"
            exact k'
          | true =>
            rw [c0] at k'
            walk_at "uz"
            refine ⟨x1, d1, rfl, h1, ?_⟩
            refine s_bl ?_
            refine s_itB (fun c1 => ?_) (fun c1 => ?_)
            · rw [c1] at k'
              walk_at "uz"
              exact ⟨x2, d2, rfl, h2, k'⟩
            · rw [c1] at k'
              exact k'
        | [], _, _, hl => rw [hl] at e; cases e
        | [_], _, _, hl => rw [hl] at e; cases e
        | [_, _], _, _, hl => rw [hl] at e; cases e
        | _ :: _ :: _ :: _ :: r, _, _, hl => rw [hl] at e; simp at e; omega
  | _ =>
    walk_at "uk"
    walk_at "uz"
    refine s_isTup hd ?_
    walk_at "uz"
    exact k
end

theorem md_30 {n : Int} (h : n.natAbs ≤ 10 ^ 31) : Md n := Nat.lt_of_le_of_lt h (Nat.lt_of_le_of_lt (show 10 ^ 31 ≤ 2 ^ 110 by decide) (Nat.pow_lt_pow_right (by decide) (by decide)))
theorem rq_two {K : PySem.W.Frag} {H : Hp} {p : Addr} {n d : Int} (h : SqT K H p [.int n, .int d]) (g : Int.gcd n d = 1) (d0 : 0 < d) : RQ K H (.ref p) (Rat.divInt n d) := by
  have q := q_red (n := n) (d := d) g d0
  exact ⟨p, rfl, by rw [q.1, q.2]; exact h⟩
section
variable {P : Program} {w : World} {K : PySem.W.Frag} {mg : Str → Option Value} {base : Heap}
variable {cE cS cX cN cP cW cG cZ : Addr}
theorem ok_l_drawn_ratio (T : Tp P K mg cE cS cX cN cP cW cG cZ)
    (c_l_pick : Cal P w K mg base 1 "_law_pick" P_l_pick [] (spPick))
    (c_l_ratio : Cal P w K mg base 2 "_law_ratio" P_l_ratio [] (spLRatio))
    {f : Addr} {fd : FuncData} {dvs : List V} (F : FunD K "_law_drawn_ratio" "_law_drawn_ratio" (defArgs s_l_drawn_ratio) (defBody s_l_drawn_ratio) (defScope s_l_drawn_ratio) dvs [] f fd) : FnG P w K mg base 3 f fd P_l_drawn_ratio (spRatD K) := by
  refine fng F sc_l_drawn_ratio (by walk_at "ulen") (fun cdv A outer s H vs Q E hr0 hg0 h => ?_)
  have hr : Rm 2 (A.deeper (envOfC "_law_drawn_ratio" (defScope s_l_drawn_ratio) s.heap.objs.size f cdv)) := ⟨hr0, hg0⟩
  have nd : N_l_drawn_ratio.Nodup := sc_l_drawn_ratio.nd
  obtain ⟨b, rfl, hb, k⟩ := h
  refine ⟨_, (pss_cons (ps_set (i := 1) nd rfl (Or.inl rfl) (pe_c (E := En) c_l_pick (hr.mono (by decide)) paN (pa_cons (pv 0) (pa_cons pe_int pa_nil))))
    (pss_cons (ps_if (pt_cmpR (op_uEq hr.r.units) (pv 1) pe_int (nomark _)) (pss_one (ps_ret (pe_c (E := En) c_l_ratio (hr.mono (by decide)) paN (pa_cons (pe_op op_uAdd (pe_op op_uMul (pe_op op_sub (pe_c (E := En) c_l_pick (hr.mono (by decide)) paN (pa_cons (pv 0) (pa_cons (pe_op op_pow pe_int pe_int) pa_nil))) (pe_op op_uMul pe_int (pe_op op_pow pe_int pe_int))) (pe_op op_pow pe_int pe_int)) pe_int) (pa_cons (pe_op op_uAdd pe_int (pe_c (E := En) c_l_pick (hr.mono (by decide)) paN (pa_cons (pv 0) (pa_cons (pe_op op_pow pe_int pe_int) pa_nil)))) pa_nil))))) pss_nil)
    (pss_cons (ps_if (pt_cmpR op_lt (pv 1) pe_int (nomark _)) (pss_one (ps_ret (pe_tup (pa_cons (pe_op op_sub (pe_c (E := En) c_l_pick (hr.mono (by decide)) paN (pa_cons (pv 0) (pa_cons pe_int pa_nil))) pe_int) (pa_cons pe_int pa_nil))))) pss_nil)
    (pss_one (ps_ret (pe_c (E := En) c_l_ratio (hr.mono (by decide)) paN (pa_cons (pe_op op_sub (pe_c (E := En) c_l_pick (hr.mono (by decide)) paN (pa_cons (pv 0) (pa_cons pe_int pa_nil))) pe_int) (pa_cons (pe_op op_uAdd pe_int (pe_c (E := En) c_l_pick (hr.mono (by decide)) paN (pa_cons (pv 0) (pa_cons pe_int pa_nil)))) pa_nil)))))))), ?_⟩
  walk_at "uk"
  walk_at "uz"
  refine ⟨b, 6, rfl, hb, by decide, by decide, fun way H1 w0 w4 k1 => ?_⟩
  walk_at "uz"
  refine s_ite (fun c => ?_) (fun c => ?_)
  · walk_at "uz"
    refine ⟨b, _, rfl, k1.b1, by decide, by decide, fun n H2 n0 n1 k2 => ?_⟩
    have n1' : n < (10 : Int) ^ 8 := n1
    walk_at "uz"
    refine s_mulI (show CMul (n - 5 * (10 : Int) ^ 7) ((10 : Int) ^ 22) ∨ CMulW (n - 5 * (10 : Int) ^ 7) ((10 : Int) ^ 22) from Or.inl (Or.inl ⟨by omega, by omega⟩)) ?_
    walk_at "uz"
    refine ⟨b, _, rfl, k2.b1, by decide, by decide, fun m H3 m0 m1 k3 => ?_⟩
    have m1' : m < (10 : Int) ^ 8 := m1
    walk_at "uz"
    refine ratioLQ (K := K) (md_30 (by show ((n - 5 * (10 : Int) ^ 7) * (10 : Int) ^ 22 + 1).natAbs ≤ _; omega)) (md_30 (by omega)) (by omega) fun w H4 e4 r4 => ?_
    exact k w _ H4 (kb_e (k1.tr (k2.tr k3)) e4) r4 (sz_int (by omega) (by show ((n - 5 * (10 : Int) ^ 7) * (10 : Int) ^ 22 + 1).natAbs ≤ _; omega) (by omega))
  · walk_at "uz"
    refine s_ite (fun c2 => ?_) (fun c2 => ?_)
    · walk_at "uz"
      refine s_tupE ?_
      walk_at "uz"
      refine ⟨b, 9, rfl, k1.b1, by decide, by decide, fun n H2 n0 n1 k2 => ?_⟩
      walk_at "uz"
      refine s_szN (Nat.le_of_ble_eq_true rfl) fun t nt => s_nw nt fun H3 e3 f3 => ?_
      exact k _ _ H3 (kb_e (k1.tr k2) e3) (rq_two (.of f3) (by simp) (by decide)) (sz_int (by decide) (by omega) (by decide))
    · walk_at "uz"
      refine ⟨b, 61, rfl, k1.b1, by decide, by decide, fun n H2 n0 n1 k2 => ?_⟩
      walk_at "uz"
      refine ⟨b, 12, rfl, k2.b1, by decide, by decide, fun m H3 m0 m1 k3 => ?_⟩
      walk_at "uz"
      refine ratioLQ (K := K) (md_30 (by omega)) (md_30 (by omega)) (by omega) fun w H4 e4 r4 => ?_
      exact k w _ H4 (kb_e (k1.tr (k2.tr k3)) e4) r4 (sz_int (by omega) (by omega) (by omega))
end

section
variable {P : Program} {w : World} {K : PySem.W.Frag} {mg : Str → Option Value} {base : Heap}
variable {cE cS cX cN cP cW cG cZ : Addr}
theorem ok_l_told_well (T : Tp P K mg cE cS cX cN cP cW cG cZ)
    (c_World_contains : CalM P w K mg base 3 cW "__contains__" P_World_contains (spContB K cW))
    (c_World_getitem : CalM P w K mg base 3 cW "__getitem__" P_World_getitem (spGetB K cW cS))
    (c_World_iter : CalM P w K mg base 1 cW "__iter__" P_World_iter (spIterW cW))
    (c_World_len : CalM P w K mg base 1 cW "__len__" P_World_len (spLenW cW))
    (c_l_is_ratio : Cal P w K mg base 2 "_law_is_ratio" P_l_is_ratio [] (spIsRat K))
    (c_l_spot_like : Cal P w K mg base 2 "_law_spot_like" P_l_spot_like [] (spIsSpot K))
    {f : Addr} {fd : FuncData} {dvs : List V} (F : FunD K "_law_told_well" "_law_told_well" (defArgs s_l_told_well) (defBody s_l_told_well) (defScope s_l_told_well) dvs [] f fd) : FnG P w K mg base 5 f fd P_l_told_well (spTold K cW) := by
  refine fng F sc_l_told_well (by walk_at "ulen") (fun cdv A outer s H vs Q E hr0 hg0 h => ?_)
  have hr : Rm 4 (A.deeper (envOfC "_law_told_well" (defScope s_l_told_well) s.heap.objs.size f cdv)) := ⟨hr0, hg0⟩
  have nd : N_l_told_well.Nodup := sc_l_told_well.nd
  have po : PassesOwn (model P w) (cxOf (L2.CX P w) P w K mg base N_l_told_well "_law_told_well" (defScope s_l_told_well) f cdv A outer s H E).A (cxOf (L2.CX P w) P w K mg base N_l_told_well "_law_told_well" (defScope s_l_told_well) f cdv A outer s H E).env (cxOf (L2.CX P w) P w K mg base N_l_told_well "_law_told_well" (defScope s_l_told_well) f cdv A outer s H E).xe := passes_of rfl
  obtain ⟨v, p, us, ts, rfl, hw, G, hp, ht, k⟩ := h
  obtain ⟨wa, dx, d, vs, rfl, hwa, hd, vl, R⟩ := id hw
  have ul := ht.len
  have l40 := G.len
  have zl : (ts.map fun t => t.1).length = ts.length := List.length_map ..
  refine ⟨_, (pss_cons (ps_setLc (i := 2) (own := [("_law_pair", 3)]) (g := gName 3) (by rfl) nd rfl rfl (sw_true rfl rfl rfl (by decide +kernel)) (pi_list (pv 1)) (blkOk_by (own := [("_law_pair", 3)]) (N := N_l_told_well) (sc := defScope s_l_told_well) (by decide +kernel)) (fun s_ H_ C_ cl_ fp_ => pg_name (i := 3) nd rfl (Or.inl rfl)) (fun s_ H_ C_ cl_ fp_ => pts_nil) (fun s_ H_ C_ cl_ fp_ => (pe_ix (ix_seqK (K := K) rfl) (pv 3) pe_int (fun _ _ => rfl))))
    (pss_cons (ps_if (PW.pt (pw_or (pt_not (pt_val (pe_callB call_isi (by rfl) T.isinstance b_isinstance (pa_cons (pv 0) (pa_cons (pe_gR T.g_World) pa_nil))))) (pw_or (pt_cmpR (op_uNe hr.r.units) (pe_callTy (call_listK c_World_iter c_World_len rfl (hr.mono (by decide))) (by rfl) T.list b_list (pa_cons (pv 0) pa_nil)) (pv 2) (nomark _)) (pw_or1 (pt_cmpR (op_uNe hr.r.units) (pe_callB (call_lenO c_World_len (hr.mono (by decide))) (by rfl) T.len b_len (pa_cons (pv 0) pa_nil)) (pe_callB call_uLen (by rfl) T.len b_len (pa_cons (pv 2) pa_nil)) (nomark _)))))) (pss_one (ps_ret pe_bl)) pss_nil)
    (pss_cons (ps_forK po c_World_iter rfl (hr.mono (by decide)) (pv 0) (pg_name (i := 4) nd rfl (Or.inl rfl))
    (pss_one (ps_if (pt_not (pt_val (pe_c (E := En) c_l_spot_like (hr.mono (by decide)) paN (pa_cons (pv 4) pa_nil)))) (pss_one (ps_ret pe_bl)) pss_nil)))
    (pss_cons (ps_for po rfl (pi_list (pv 1)) (pg_name (i := 3) nd rfl (Or.inl rfl))
    (pss_cons (ps_set (i := 5) nd rfl (Or.inl rfl) (pe_getO (E := En) (pv 0) (pe_ix ix_seq (pv 3) pe_int (fun _ _ => rfl)) c_World_getitem T.gi_World (hr.mono (by decide)) paN))
    (pss_one (ps_if (PW.pt (pw_or (pt_not (pt_val (pe_c (E := En) c_l_is_ratio (hr.mono (by decide)) paN (pa_cons (pv 5) pa_nil)))) (pw_or (pt_cmpR (op_uNe hr.r.units) (pv 5) (pe_ix ix_seq (pv 3) pe_int (fun _ _ => rfl)) (nomark _)) (pw_or1 (pt_cmpR (op_notInO c_World_contains (hr.mono (by decide))) (pe_ix ix_seq (pv 3) pe_int (fun _ _ => rfl)) (pv 0) rfl))))) (pss_one (ps_ret pe_bl)) pss_nil))))
    (pss_one (ps_ret pe_bl)))))), ?_⟩
  walk_at "uk"
  walk_at "uz"
  refine lcFst (.of hp) ht (by omega) ?_ ?_
  rotate_left
  · intro C q a b H' hq hc
    refine ⟨rfl, ?_⟩
    walk_at "uz"
    exact hc
  intro D ys H1 e1 f1 s1
  have hwa1 := e1 _ _ hwa
  have hd1 := e1 _ _ hd
  walk_at "uz"
  refine s_isWorld T hwa1 ?_
  walk_at "uz"
  refine s_listW (K := K) hwa1 hd1 vl (by omega) fun q2 ws2 H2 e2 f2 s2 => ?_
  have f12 := e2 _ _ f1
  walk_at "uz"
  refine ne_same (d := .list ((ts.map fun t => t.1).map spotD)) (.lst (.of f2) (spots_dpa s2)) (.lst (.of f12) (spots_dpa (spots_im s1 e2.im))) (spots_shl (good_sp G)) ?_
  have e02 := e1.tr e2
  have hwa2 := e02 _ _ hwa
  have hd2 := e02 _ _ hd
  walk_at "uz"
  refine ⟨wa, dx, _, rfl, hwa2, wa, dx, d, _, rfl, hwa2, .inl hd2, _, rfl, by omega, by rw [tabW_len vl]; omega, ?_⟩
  walk_at "uz"
  rw [tabW_len vl]
  have yl := s1.len
  rw [yl]
  refine s_iteN (fun c => absurd rfl c) (fun _ => ?_)
  walk_at "uz"
  refine ⟨_, rfl, wa, dx, _, d, _, rfl, hwa2, hd2, ⟨wa, dx, d, _, rfl, hwa2, hd2, fun it od hit => ⟨it, od, rfl, hit, rfl⟩⟩, fun i σ' => ∃ o4, σ' = [some (.ref wa), some (.ref p), some (.ref D), none, o4, none], ⟨none, rfl⟩, ?_, ?_⟩
  rotate_left
  · rintro i ky w σ' od b hk ⟨o4, rfl⟩ hb
    obtain ⟨z, hz, rfl⟩ := tabW_get hk
    have nb : b ≠ d := fun q => by rw [q, hd2] at hb; cases hb
    walk_at "uz"
    refine ⟨.ref b, spotD z, rfl, spot_dp ⟨b, rfl, (upd_ne nb).trans hb⟩, ?_⟩
    rw [show isSpotD (spotD z) = true from rfl]
    walk_at "uz"
    exact ⟨rfl, _, rfl⟩
  rintro σ' ⟨o4, rfl⟩
  have hp2 := e02 _ _ hp
  walk_at "uz"
  refine loopL (xs := us) (fun i σ' H' => Ex H2 H' ∧ ∃ o3 o5, σ' = [some (.ref wa), some (.ref p), some (.ref D), o3, o4, o5]) ⟨exR _, none, none, rfl⟩ (fun i σ' H' h => .of (h.1 _ _ hp2)) ?_ ?_
  · rintro σ' H3 ⟨e3, o3, o5, rfl⟩
    walk_at "uz"
    exact k H3 (e02.tr e3)
  rintro i x σ' H3 hx ⟨e3, o3, o5, rfl⟩
  obtain ⟨t, hti, tm, q, a, b, rfl, hq0, ⟨sq, rfl, hsq0⟩, hb0⟩ := term_of ht hx
  have e03 := e02.tr e3
  have hq := Ex.st hq0 e03
  have hsq := e03 _ _ hsq0
  have hb := rq_ex hb0 e03
  have hwa3 := e03 _ _ hwa
  have hw3 := wt_im hw e03.im
  walk_at "uz"
  refine ⟨wa, dx, _, rfl, hwa3, _, _, ts, _, rfl, hw3, G.nd, .inl ⟨t.1, ⟨sq, rfl, hsq⟩, rfl⟩, fun q2 hq2 u hu => ?_, fun z => ?_⟩
  rotate_left
  · rw [lookT_at G.nd tm] at z; cases z
  rw [lookT_at G.nd tm] at hq2
  cases hq2
  walk_at "uz"
  refine isRatQ (K := K) hu (big40 (G.sz t tm)) ?_
  walk_at "uz"
  refine ne_rqD hu hb ?_
  rw [decide_eq_true rfl]
  walk_at "uz"
  refine s_inW hw3 G.nd (.inl ⟨t.1, ⟨sq, rfl, hsq⟩, lookT_at G.nd tm⟩) ?_
  walk_at "uz"
  exact ⟨e3, _, _, rfl⟩
end

theorem le_div {q : Rat} {r : Int} : decide (q.num ≤ r * (q.den : Int)) = decide (q ≤ (r : Rat)) := by
  refine decide_eq_decide.mpr ?_
  rw [Rat.le_iff]
  show q.num ≤ r * (q.den : Int) ↔ q.num * ((r : Rat).den : Int) ≤ (r : Rat).num * (q.den : Int)
  have a : (r : Rat).den = 1 := rfl
  have b : (r : Rat).num = r := rfl
  rw [a, b]
  show _ ↔ q.num * ((1 : Nat) : Int) ≤ _
  simp
theorem div_bd {q : Rat} (h : Sz (10 ^ 81) q) : (q.num / (q.den : Int)).natAbs ≤ 10 ^ 81 := Nat.le_trans (Int.natAbs_ediv_le_natAbs _ _) h.n
theorem gap_81 {p q : Rat} (h : Sz (10 ^ 40) p) (g : Sz (10 ^ 40) q) : Sz (10 ^ 81) (q - p) := (g.sub h).mono (show 2 * (10 ^ 40 * 10 ^ 40) ≤ 10 ^ 81 by decide)
section
variable {P : Program} {w : World} {K : PySem.W.Frag} {mg : Str → Option Value} {base : Heap}
variable {cE cS cX cN cP cW cG cZ : Addr}
theorem ok_l_gaps_told_well (T : Tp P K mg cE cS cX cN cP cW cG cZ)
    (c_World_gap : CalM P w K mg base 5 cW "gap" P_World_gap (spGapB K cW cS))
    (c_World_keeps : CalM P w K mg base 6 cW "keeps" P_World_keeps (spKeepsB K cW cS))
    (c_l_is_ratio : Cal P w K mg base 2 "_law_is_ratio" P_l_is_ratio [] (spIsRat K))
    (c_l_minus : Cal P w K mg base 3 "_law_minus" P_l_minus [] (spMinus K))
    {f : Addr} {fd : FuncData} {dvs : List V} (F : FunD K "_law_gaps_told_well" "_law_gaps_told_well" (defArgs s_l_gaps_told_well) (defBody s_l_gaps_told_well) (defScope s_l_gaps_told_well) dvs [] f fd) : FnG P w K mg base 7 f fd P_l_gaps_told_well (spTold K cW) := by
  refine fng F sc_l_gaps_told_well (by walk_at "ulen") (fun cdv A outer s H vs Q E hr0 hg0 h => ?_)
  have hr : Rm 6 (A.deeper (envOfC "_law_gaps_told_well" (defScope s_l_gaps_told_well) s.heap.objs.size f cdv)) := ⟨hr0, hg0⟩
  have nd : N_l_gaps_told_well.Nodup := sc_l_gaps_told_well.nd
  have po : PassesOwn (model P w) (cxOf (L2.CX P w) P w K mg base N_l_gaps_told_well "_law_gaps_told_well" (defScope s_l_gaps_told_well) f cdv A outer s H E).A (cxOf (L2.CX P w) P w K mg base N_l_gaps_told_well "_law_gaps_told_well" (defScope s_l_gaps_told_well) f cdv A outer s H E).env (cxOf (L2.CX P w) P w K mg base N_l_gaps_told_well "_law_gaps_told_well" (defScope s_l_gaps_told_well) f cdv A outer s H E).xe := passes_of rfl
  obtain ⟨v, p, us, ts, rfl, hw, G, hp, ht, k⟩ := h
  obtain ⟨wa, dx, d, vs, rfl, hwa, hd, vl, R⟩ := id hw
  have ul := ht.len
  have l40 := G.len
  refine ⟨_, (pss_cons (ps_for po rfl (pi_list (pv 1)) (pg_name (i := 2) nd rfl (Or.inl rfl))
    (pss_one (ps_for po rfl (pi_list (pv 1)) (pg_name (i := 3) nd rfl (Or.inl rfl))
    (pss_cons (ps_set (i := 4) nd rfl (Or.inl rfl) (pe_mG (E := En) (pv 0) c_World_gap (hr.mono (by decide)) paN (pa_cons (pe_ix ix_seq (pv 2) pe_int (fun _ _ => rfl)) (pa_cons (pe_ix ix_seq (pv 3) pe_int (fun _ _ => rfl)) pa_nil))))
    (pss_cons (ps_set (i := 5) nd rfl (Or.inl rfl) (pe_c (E := En) c_l_minus (hr.mono (by decide)) paN (pa_cons (pe_ix ix_seq (pv 3) pe_int (fun _ _ => rfl)) (pa_cons (pe_ix ix_seq (pv 2) pe_int (fun _ _ => rfl)) pa_nil))))
    (pss_cons (ps_if (PW.pt (pw_or (pt_not (pt_val (pe_c (E := En) c_l_is_ratio (hr.mono (by decide)) paN (pa_cons (pv 4) pa_nil)))) (pw_or1 (pt_cmpR (op_uNe hr.r.units) (pv 4) (pv 5) (nomark _))))) (pss_one (ps_ret pe_bl)) pss_nil)
    (pss_one (ps_if (pt_cmpR (op_uNe hr.r.units) (pe_ix ix_seq (pv 2) pe_int (fun _ _ => rfl)) (pe_ix ix_seq (pv 3) pe_int (fun _ _ => rfl)) (nomark _)) (pss_one (ps_for po rfl (pi_list (pe_lst (pa_cons (pe_op op_sub (pe_op op_uDiv (pe_ix ix_seq (pv 5) pe_int (fun _ _ => rfl)) (pe_ix ix_seq (pv 5) pe_int (fun _ _ => rfl))) pe_int) (pa_cons (pe_op op_uDiv (pe_ix ix_seq (pv 5) pe_int (fun _ _ => rfl)) (pe_ix ix_seq (pv 5) pe_int (fun _ _ => rfl))) (pa_cons (pe_op op_uAdd (pe_op op_uDiv (pe_ix ix_seq (pv 5) pe_int (fun _ _ => rfl)) (pe_ix ix_seq (pv 5) pe_int (fun _ _ => rfl))) pe_int) pa_nil))))) (pg_name (i := 6) nd rfl (Or.inl rfl))
    (pss_cons (ps_set (i := 7) nd rfl (Or.inl rfl) (pe_mG (E := En) (pv 0) c_World_keeps (hr.mono (by decide)) paN (pa_cons (pe_tup (pa_cons (pe_ix ix_seq (pv 2) pe_int (fun _ _ => rfl)) (pa_cons (pe_ix ix_seq (pv 3) pe_int (fun _ _ => rfl)) (pa_cons (pv 6) (pa_cons (pe_tup (pa_cons pe_str (pa_cons (pe_ix ix_seq (pe_ix ix_seq (pv 2) pe_int (fun _ _ => rfl)) pe_int (fun _ _ => rfl)) pa_nil))) pa_nil))))) pa_nil)))
    (pss_one (ps_if (PW.pt (pw_or (pt_not (pt_val (pe_callB call_isi (by rfl) T.isinstance b_isinstance (pa_cons (pv 7) (pa_cons (pe_bltn (v := .ty "bool") (by rfl) T.bool b_bool rfl) pa_nil))))) (pw_or1 (pt_cmpR (op_uNe hr.r.units) (pv 7) (pe_cmpR op_le (pe_ix ix_seq (pv 5) pe_int (fun _ _ => rfl)) (pe_op op_uMul (pv 6) (pe_ix ix_seq (pv 5) pe_int (fun _ _ => rfl))) (nomark _)) (nomark _))))) (pss_one (ps_ret pe_bl)) pss_nil))))) pss_nil))))))))
    (pss_one (ps_ret pe_bl))), ?_⟩
  walk_at "uk"
  walk_at "uz"
  refine loopL (xs := us) (fun i σ' H' => Ex H H' ∧ ∃ o2 o3 o4 o5 o6 o7, σ' = [some (.ref wa), some (.ref p), o2, o3, o4, o5, o6, o7]) ⟨exR _, none, none, none, none, none, none, rfl⟩ (fun i σ' H' h => .of (h.1 _ _ hp)) ?_ ?_
  · rintro σ' H3 ⟨e3, o2, o3, o4, o5, o6, o7, rfl⟩
    walk_at "uz"
    exact k H3 e3
  rintro i x σ' H1 hx ⟨e1, o2, o3, o4, o5, o6, o7, rfl⟩
  obtain ⟨t, hti, tm, q, a, b, rfl, hq0, ⟨sq, rfl, hsq0⟩, hb0⟩ := term_of ht hx
  have hp1 := e1 _ _ hp
  walk_at "uz"
  refine loopL (xs := us) (fun i σ' H' => Ex H H' ∧ ∃ o3 o4 o5 o6 o7, σ' = [some (.ref wa), some (.ref p), some (.ref q), o3, o4, o5, o6, o7]) ⟨e1, o3, o4, o5, o6, o7, rfl⟩ (fun i σ' H' h => .of (h.1 _ _ hp)) ?_ ?_
  · rintro σ' H3 ⟨e3, o3, o4, o5, o6, o7, rfl⟩
    walk_at "uz"
    exact ⟨e3, _, _, _, _, _, _, rfl⟩
  rintro i2 x2 σ' H2 hx2 ⟨e2, o3, o4, o5, o6, o7, rfl⟩
  obtain ⟨t2, hti2, tm2, q2, a2, b2, rfl, hq20, ⟨sq2, rfl, hsq20⟩, hb20⟩ := term_of ht hx2
  have hq := Ex.st hq0 e2
  have hq2 := Ex.st hq20 e2
  have hwa2 := e2 _ _ hwa
  have hw2 := wt_im hw e2.im
  have hb := rq_ex hb0 e2
  have hb2 := rq_ex hb20 e2
  have sz1 := G.sz t tm
  have sz2 := G.sz t2 tm2
  walk_at "uz"
  refine ⟨wa, dx, _, rfl, hwa2, rfl, ?_⟩
  walk_at "uz"
  refine ⟨_, .ref sq, .ref sq2, ts, _, _, rfl, hw2, G, .inl ⟨t.1, ⟨sq, rfl, e2 _ _ hsq0⟩, lookT_at G.nd tm⟩, .inl ⟨t2.1, ⟨sq2, rfl, e2 _ _ hsq20⟩, lookT_at G.nd tm2⟩, fun p' q' hp' hq' u H3 e3 hu => ?_, (fun z => by cases z), (fun _ _ z => by cases z)⟩
  cases hp'
  cases hq'
  have e03 := e2.tr e3
  have hq3 := Ex.st hq e3
  have hq23 := Ex.st hq2 e3
  walk_at "uz"
  refine minusQ (rq_ex hb2 e3) (rq_ex hb e3) (big40 sz2) (big40 sz1) fun u4 H4 e4 r4 => ?_
  walk_at "uz"
  refine isRatQ (K := K) (rq_ex hu e4) (gap_sz sz1 sz2) ?_
  walk_at "uz"
  refine ne_rqD (rq_ex hu e4) r4 ?_
  rw [decide_eq_true rfl]
  have e04 := e03.tr e4
  have hq4 := Ex.st hq3 e4
  have hq24 := Ex.st hq23 e4
  walk_at "uz"
  refine ne_data (spot_dp ⟨sq, rfl, e04 _ _ hsq0⟩) (spot_dp ⟨sq2, rfl, e04 _ _ hsq20⟩) (spot_shaped (G.ok t tm).ok) (spot_shaped (G.ok t2 tm2).ok) ?_
  rw [spot_eqv]
  by_cases c : t.1 = t2.1
  · rw [decide_eq_true c]
    walk_at "uz"
    exact ⟨e04, _, _, _, _, _, rfl⟩
  rw [decide_eq_false c]
  have g81 := gap_81 sz1 sz2
  have gbig := gap_sz sz1 sz2
  generalize hqq : t2.2 - t.2 = qq at r4 hu g81 gbig
  obtain ⟨pu, rfl, hpu⟩ := r4
  have d0 : 0 < (qq.den : Int) := by have := qq.den_pos; omega
  have dl : (qq.den : Int).natAbs.log2 < 9000 := Nat.lt_trans (log_big (i := (qq.den : Int)) gbig.d) (by decide)
  have db := div_bd g81
  walk_at "uz"
  refine s_lstE ?_
  walk_at "uz"
  refine s_szN (Nat.le_of_ble_eq_true rfl) fun lr nlr => s_nw nlr fun H5 e5 f5 => ?_
  have e05 := e04.tr e5
  walk_at "uz"
  refine loopL (xs := [V.int (qq.num / (qq.den : Int) - 1), V.int (qq.num / (qq.den : Int)), V.int (qq.num / (qq.den : Int) + 1)]) (fun i σ' H' => Ex H5 H' ∧ ∃ o6 o7, σ' = [some (.ref wa), some (.ref p), some (.ref q), some (.ref q2), some u, some (.ref pu), o6, o7]) ⟨exR _, o6, o7, rfl⟩ (fun i σ' H' h => .of (h.1 _ _ f5)) ?_ ?_
  · rintro σ' H6 ⟨e6, o6, o7, rfl⟩
    walk_at "uz"
    exact ⟨e05.tr e6, _, _, _, _, _, rfl⟩
  rintro i3 x3 σ' H6 hx3 ⟨e6, o6, o7, rfl⟩
  obtain ⟨r, rfl, rb⟩ : ∃ r : Int, x3 = .int r ∧ r.natAbs ≤ 10 ^ 82 := by
    rcases i3 with _ | _ | _ | i3
    · cases hx3; exact ⟨_, rfl, by omega⟩
    · cases hx3; exact ⟨_, rfl, by omega⟩
    · cases hx3; exact ⟨_, rfl, by omega⟩
    · cases hx3
  have e06 := e05.tr e6
  have hq6 := Ex.st hq4 (e5.tr e6)
  have hq26 := Ex.st hq24 (e5.tr e6)
  have hpu6 := Ex.st hpu (e5.tr e6)
  have hsq6 : SqT K H6 sq (vS t.1) := .of (e06 _ _ hsq0)
  clear hq hq3 hq4 hq2 hq23 hq24 hq0 hq20 e1
  walk_at "uz"
  refine ⟨wa, dx, _, rfl, e06 _ _ hwa, rfl, ?_⟩
  walk_at "uz"
  refine s_tupE ?_
  walk_at "uz"
  refine s_tupE ?_
  walk_at "uz"
  refine s_szN (Nat.le_of_ble_eq_true rfl) fun t7 n7 => s_nw n7 fun H7 e7 f7 => ?_
  walk_at "uz"
  refine s_szN (Nat.le_of_ble_eq_true rfl) fun t8 n8 => s_nw n8 fun H8 e8 f8 => ?_
  have e08 := e06.tr (e7.tr e8)
  walk_at "uz"
  refine ⟨_, t8, .ref sq, .ref sq2, _, ts, _, _, r, rfl, .of f8, Nat.le_trans rb (Nat.pow_le_pow_right (by decide) (by decide)), wt_im hw e08.im, G, .inl ⟨t.1, ⟨sq, rfl, e08 _ _ hsq0⟩, lookT_at G.nd tm⟩, .inl ⟨t2.1, ⟨sq2, rfl, e08 _ _ hsq20⟩, lookT_at G.nd tm2⟩, fun p' q' hp' hq' H9 e9 => ?_, (fun z => by cases z), (fun _ _ z => by cases z)⟩
  cases hp'
  cases hq'
  rw [hqq]
  have e69 := e7.tr (e8.tr e9)
  have hpu9 := Ex.st hpu6 e69
  walk_at "uz"
  refine s_isBool (.bl _) ?_
  walk_at "uz"
  refine s_mulI (Or.inr (mulB (Nat.le_trans rb (big_ge (by decide))) (by exact gbig.d))) ?_
  walk_at "uz"
  rw [le_div, decide_eq_true rfl]
  walk_at "uz"
  exact ⟨e6.tr e69, _, _, rfl⟩
end

section
variable {P : Program} {w : World} {K : PySem.W.Frag} {mg : Str → Option Value} {base : Heap}
variable {cE cS cX cN cP cW cG cZ : Addr}
theorem ok_l_lacks (T : Tp P K mg cE cS cX cN cP cW cG cZ)
    {f : Addr} {fd : FuncData} {dvs : List V} (F : FunD K "_law_lacks" "_law_lacks" (defArgs s_l_lacks) (defBody s_l_lacks) (defScope s_l_lacks) dvs [] f fd) : FnHG P w K mg base 1 f fd P_l_lacks (spLacksB K cS) := by
  refine fngH F sc_l_lacks (fun _ _ _ => by walk_at "ulen") (fun cdv A outer s H vs Q E p c d hr0 hg0 hz hf h => ?_)
  have hr : RmH 0 (A.deeper (envOfC "_law_lacks" (defScope s_l_lacks) s.heap.objs.size f cdv)) := ⟨⟨hr0⟩, hg0⟩
  have nd : N_l_lacks.Nodup := sc_l_lacks.nd
  have hpx : PinX (cxU P w K mg base N_l_lacks "_law_lacks" (defScope s_l_lacks) f cdv A outer s H E p) p.1 c d := ⟨p.2, List.mem_singleton.mpr rfl, hz, hf⟩
  obtain ⟨dd, v, w, dt, rfl, rfl, rfl, hd, h1, h2, sh, k⟩ := h
  refine ⟨_, (pss_cons (ps_if (PW.pt (pw_or (pt_not (pt_val (pe_callB (call_isP hpx) (by rfl) T.isinstance b_isinstance (pa_cons (pv 0) (pa_cons (pe_gR T.g_NoSpot) pa_nil))))) (pw_or (pt_val (pe_callB (call_isP hpx) (by rfl) T.isinstance b_isinstance (pa_cons (pv 0) (pa_cons (pe_tup (pa_cons (pe_gR T.g_BadWorld) (pa_cons (pe_gR T.g_BadSpot) pa_nil))) pa_nil)))) (pw_or1 (pt_not (pt_val (pe_callB (call_isP hpx) (by rfl) T.isinstance b_isinstance (pa_cons (pv 0) (pa_cons (pe_bltn (v := .ty "ValueError") (by rfl) T.ValueError b_ValueError rfl) pa_nil))))))))) (pss_one (ps_ret pe_bl)) pss_nil)
    (pss_one (ps_ret (pe_cmpR (op_uEq hr.r.units) (pe_callB (call_uReprH hr) (by rfl) T.repr b_repr (pa_cons (pe_xfP T.xf_NoSpot T.xn_NoSpot_spot hpx (pv 0)) pa_nil)) (pe_callB (call_uReprH hr) (by rfl) T.repr b_repr (pa_cons (pv 1) pa_nil)) (nomark _))))), ?_⟩
  walk_at "uk"
  walk_at "uz"
  refine s_isXr hd T.eS T.oSS ?_
  walk_at "uz"
  refine s_tupE ?_
  walk_at "uz"
  refine s_szN (Nat.le_of_ble_eq_true rfl) fun t nt => s_nw nt fun H1 e1 f1 => ?_
  refine ⟨cS, dd, _, rfl, rfl, e1 _ _ hd, T.eS, .inr ⟨t, _, _, false, rfl, f1, .cons (.own cX) (.cons (.own cP) .nil), T.oSO, ?_⟩⟩
  walk_at "uz"
  refine s_isXt (e1 _ _ hd) T.eS T.oSV ?_
  walk_at "uz"
  refine s_xfV rfl (e1 _ _ hd) rfl ?_
  walk_at "uz"
  refine ⟨v, _, rfl, ⟨dt, dp_ex e1 _ _ h1, sh.s, sh.n, sh.p, sh.l, rfl⟩, ?_⟩
  walk_at "uz"
  refine ⟨w, _, rfl, ⟨dt, dp_ex e1 _ _ h2, sh.s, sh.n, sh.p, sh.l, rfl⟩, ?_⟩
  walk_at "uz"
  rw [decide_eq_true rfl]
  exact k _ e1
end

theorem shw_odd {x : Str} {a b : PyData} (hx : PyData.strOk x = true) (lx : x.length ≤ 10) (ha : a = .bool true ∨ a = .bool false ∨ ∃ i : Int, a = .int i ∧ i.natAbs ≤ 10 ^ 20) (hb : b = .bool true ∨ b = .bool false ∨ ∃ i : Int, b = .int i ∧ i.natAbs ≤ 10 ^ 20) : Shw (.tuple [.str x, a, b]) := by
  have lg : ∀ i : Int, i.natAbs ≤ 10 ^ 20 → i.natAbs.log2 < 1920 := fun i h => by
    by_cases z : i.natAbs = 0
    · rw [z]; decide
    · have := (Nat.log2_lt z (k := 70)).mpr (Nat.lt_of_le_of_lt h (by decide))
      omega
  have key : ∀ c : PyData, (c = .bool true ∨ c = .bool false ∨ ∃ i : Int, c = .int i ∧ i.natAbs ≤ 10 ^ 20) → c.showable = true ∧ c.hasDict = false ∧ c.depth = 0 ∧ c.canLay0 = true ∧ PyData.intsShort 1921 c = true ∧ c.weight ≤ 70 := by
    rintro c (rfl | rfl | ⟨i, rfl, h⟩)
    · decide
    · decide
    · refine ⟨?_, rfl, rfl, rfl, ?_, ?_⟩
      · show decide (i.natAbs.log2 < 1920) = true
        exact decide_eq_true (lg i h)
      · show decide ((PyData.shown (.int i)).length ≤ 1921) = true
        refine decide_eq_true ?_
        show (PySem.Str.ofString (toString i)).length ≤ 1921
        exact PyProof.Rows.int_text_len_1921 (lg i h)
      · show (if i == 0 then 0 else i.natAbs.log2 + 1) ≤ 70
        split
        · omega
        · rename_i z
          have z' : i.natAbs ≠ 0 := by intro q; apply z; simp; omega
          have := (Nat.log2_lt z' (k := 69)).mpr (Nat.lt_of_le_of_lt h (by decide))
          omega
  obtain ⟨a1, a2, a3, a4, a5, a6⟩ := key a ha
  obtain ⟨b1, b2, b3, b4, b5, b6⟩ := key b hb
  have cl : PyData.canLay0 (.tuple [.str x, a, b]) = true := by
    simp [PyData.canLay0, PyData.canLayAll0, hx, a4, b4]
  have is : PyData.intsShort 1921 (.tuple [.str x, a, b]) = true := by
    simp [PyData.intsShort, PyData.intsShortAll, a5, b5]
  have wt : PyData.weight (.tuple [.str x, a, b]) ≤ 200 := by
    show x.cps.size + 1 + (a.weight + 1 + (b.weight + 1 + 0)) ≤ 200
    have : x.cps.size ≤ 10 := lx
    omega
  have sl := PyData.shown_le 1921 (by decide) (.tuple [.str x, a, b]) (PyData.leavesShort_of_canLay0 1921 _ cl is)
  refine ⟨by simp [PyData.showable, PyData.showableAll, a1, b1], by simp [PyData.hasDict, PyData.hasDictAll, a2, b2], by simp [PyData.depth, PyData.depthAll, a3, b3], ?_⟩
  show _ ≤ 16777216
  omega
theorem shw_spot {z : Spot} (h : SpB z) : Shw (spotD z) := shw_odd h.ok h.len (.inr (.inr ⟨_, rfl, h.i1⟩)) (.inr (.inr ⟨_, rfl, h.i2⟩))
theorem bo (c : Bool) : PyData.bool c = .bool true ∨ PyData.bool c = .bool false ∨ ∃ i : Int, PyData.bool c = .int i ∧ i.natAbs ≤ 10 ^ 20 := by cases c <;> simp
theorem alike_im {K : PySem.W.Frag} {H H' : Hp} {v : V} (h : Alike K H v) (m : Im H H') : Alike K H' v := let ⟨q, x, y, z, c, i, h1, h2, h3⟩ := h; ⟨q, x, y, z, c, i, h1, sqt_im h2 m, h3⟩
theorem alike_dp {K : PySem.W.Frag} {H : Hp} {v : V} (h : Alike K H v) : ∃ d, Dp K H v d ∧ isSpotD d = false ∧ Shw d := by
  obtain ⟨q, x, y, z, c, i, rfl, h2, h3, hx, lx, hi⟩ := h
  rcases h3 with ⟨rfl, rfl⟩ | ⟨rfl, rfl⟩
  · exact ⟨.tuple [.str x, .bool c, .int i], .tup h2 (.cons (.str _) (.cons (.bl _) (.cons (.int _) .nil))), rfl, shw_odd hx lx (bo c) (.inr (.inr ⟨i, rfl, hi⟩))⟩
  · exact ⟨.tuple [.str x, .int i, .bool c], .tup h2 (.cons (.str _) (.cons (.int _) (.cons (.bl _) .nil))), rfl, shw_odd hx lx (.inr (.inr ⟨i, rfl, hi⟩)) (bo c)⟩
theorem alike_1 {K : PySem.W.Frag} {H : Hp} {p : Addr} {x : Str} {c : Bool} {i : Int} (h : H p = some (.tup [.str x, .bl c, .int i])) (hx : PyData.strOk x = true) (lx : x.length ≤ 10) (hi : i.natAbs ≤ 10 ^ 20) : Alike K H (.ref p) := ⟨p, x, _, _, c, i, rfl, .of h, .inl ⟨rfl, rfl⟩, hx, lx, hi⟩
theorem alike_2 {K : PySem.W.Frag} {H : Hp} {p : Addr} {x : Str} {c : Bool} {i : Int} (h : H p = some (.tup [.str x, .int i, .bl c])) (hx : PyData.strOk x = true) (lx : x.length ≤ 10) (hi : i.natAbs ≤ 10 ^ 20) : Alike K H (.ref p) := ⟨p, x, _, _, c, i, rfl, .of h, .inr ⟨rfl, rfl⟩, hx, lx, hi⟩
section
variable {P : Program} {w : World} {K : PySem.W.Frag} {mg : Str → Option Value} {base : Heap}
variable {cE cS cX cN cP cW cG cZ : Addr}
theorem ok_l_lookalikes (T : Tp P K mg cE cS cX cN cP cW cG cZ)
    {f : Addr} {fd : FuncData} {dvs : List V} (F : FunD K "_law_lookalikes" "_law_lookalikes" (defArgs s_l_lookalikes) (defBody s_l_lookalikes) (defScope s_l_lookalikes) dvs [] f fd) : FnG P w K mg base 1 f fd P_l_lookalikes (spAlikes K) := by
  refine fng F sc_l_lookalikes (by walk_at "ulen") (fun cdv A outer s H vs Q E hr0 hg0 h => ?_)
  have hr : Rm 0 (A.deeper (envOfC "_law_lookalikes" (defScope s_l_lookalikes) s.heap.objs.size f cdv)) := ⟨hr0, hg0⟩
  have nd : N_l_lookalikes.Nodup := sc_l_lookalikes.nd
  obtain ⟨v, z, rfl, ⟨sq, rfl, hsq⟩, B, k⟩ := h
  refine ⟨_, (pss_cons (ps_set (i := 1) nd rfl (Or.inl rfl) (pe_lst (pa_cons (pe_tup (pa_cons pe_str (pa_cons pe_bl (pa_cons pe_int pa_nil)))) (pa_cons (pe_tup (pa_cons pe_str (pa_cons pe_int (pa_cons pe_bl pa_nil)))) pa_nil))))
    (pss_consJ (ps_if (PW.pt (pw_or (pt_cmpR (op_uEq hr.r.units) (pe_ix ix_seq (pv 0) pe_int (fun _ _ => rfl)) pe_int (nomark _)) (pw_or1 (pt_cmpR (op_uEq hr.r.units) (pe_ix ix_seq (pv 0) pe_int (fun _ _ => rfl)) pe_int (nomark _))))) (pss_one (ps_expr (pe_bm PySem.F.plainAttrs_list PySem.F.slot_list_append PySem.F.type_list_append mt_append (pv 1) (pa_cons (pe_tup (pa_cons (pe_ix ix_seq (pv 0) pe_int (fun _ _ => rfl)) (pa_cons (pe_cmpR (op_uEq hr.r.units) (pe_ix ix_seq (pv 0) pe_int (fun _ _ => rfl)) pe_int (nomark _)) (pa_cons (pe_ix ix_seq (pv 0) pe_int (fun _ _ => rfl)) pa_nil)))) pa_nil)))) pss_nil)
    (pss_cons (ps_if (PW.pt (pw_or (pt_cmpR (op_uEq hr.r.units) (pe_ix ix_seq (pv 0) pe_int (fun _ _ => rfl)) pe_int (nomark _)) (pw_or1 (pt_cmpR (op_uEq hr.r.units) (pe_ix ix_seq (pv 0) pe_int (fun _ _ => rfl)) pe_int (nomark _))))) (pss_one (ps_expr (pe_bm PySem.F.plainAttrs_list PySem.F.slot_list_append PySem.F.type_list_append mt_append (pv 1) (pa_cons (pe_tup (pa_cons (pe_ix ix_seq (pv 0) pe_int (fun _ _ => rfl)) (pa_cons (pe_ix ix_seq (pv 0) pe_int (fun _ _ => rfl)) (pa_cons (pe_cmpR (op_uEq hr.r.units) (pe_ix ix_seq (pv 0) pe_int (fun _ _ => rfl)) pe_int (nomark _)) pa_nil)))) pa_nil)))) pss_nil)
    (pss_one (ps_ret (pv 1)))))), ?_⟩
  walk_at "uk"
  walk_at "uz"
  refine s_lstE ?_
  walk_at "uz"
  refine s_tupE ?_
  walk_at "uz"
  refine s_szN (Nat.le_of_ble_eq_true rfl) fun t1 n1 => s_nw n1 fun H1 e1 f1 => ?_
  walk_at "uz"
  refine s_tupE ?_
  walk_at "uz"
  refine s_szN (Nat.le_of_ble_eq_true rfl) fun t2 n2 => s_nw n2 fun H2 e2 f2 => ?_
  walk_at "uz"
  refine s_szN (Nat.le_of_ble_eq_true rfl) fun q nq => s_nw nq fun H3 e3 f3 => ?_
  have e12 := e1.tr e2
  have e03 := e12.tr e3
  have nqH : H q = none := by
    cases y : H q with
    | none => rfl
    | some o => rw [e12 _ _ y] at nq; cases nq
  have gk : PyData.strOk "ground" = true ∧ (("ground" : Str)).length ≤ 10 := by decide +kernel
  have all3 : ∀ u ∈ [V.ref t1, V.ref t2], Alike K H3 u := fun u m => by
    rcases List.mem_cons.mp m with rfl | m
    · exact alike_1 (c := false) (e3 _ _ (e2 _ _ f1)) gk.1 gk.2 (by decide)
    · rw [List.mem_singleton.mp m]
      exact alike_2 (c := false) (e3 _ _ f2) gk.1 gk.2 (by decide)
  have hsq3 := e03 _ _ hsq
  have l10 := B.len
  walk_at "uj"
  refine s_seqJ (fun σ' H' => Ex H H' ∧ ∃ acc, H' q = some (.lst acc) ∧ acc.length ≤ 3 ∧ (∀ u ∈ acc, Alike K H' u) ∧ σ' = [some (.ref sq), some (.ref q)]) ?_ (fun R hR => ?_)
  rotate_left
  · walk_at "uz"
    refine s_ite (fun c => ?_) (fun c => ?_)
    · skip
      walk_at "uz"
      refine s_tyL (.of f3) ?_
      walk_at "uz"
      refine s_tupE ?_
      walk_at "uz"
      refine s_szN (Nat.le_of_ble_eq_true rfl) fun t5 n5 => s_nw n5 fun H5 e5 f5 => ?_
      refine ⟨q, _, _, rfl, rfl, e5 _ _ f3, by show _ < 16777216; exact Nat.le_of_ble_eq_true rfl, ?_⟩
      refine s_mw (e5 _ _ f3) fun H6 m6 i6 f6 => ?_
      have e06 : Ex H H6 := fun a o h => m6 a o (fun z => by rw [z, nqH] at h; cases h) (e5 _ _ (e03 _ _ h))
      have nt5 : t5 ≠ q := fun z => by rw [z, f3] at n5; cases n5
      have all6 : ∀ u ∈ _ ++ [V.ref t5], Alike K H6 u := fun u m => by
        rcases List.mem_append.mp m with m | m
        · exact alike_im (all3 u m) (e5.im.tr i6)
        · rw [List.mem_singleton.mp m]
          exact alike_1 (m6 _ _ nt5 f5) B.ok l10 B.i2
      exact hR _ _ ⟨e06, _, f6, Nat.le_of_ble_eq_true rfl, all6, rfl⟩
    · walk_at "uz"
      refine s_ite (fun c => ?_) (fun c => ?_)
      · skip
        walk_at "uz"
        refine s_tyL (.of f3) ?_
        walk_at "uz"
        refine s_tupE ?_
        walk_at "uz"
        refine s_szN (Nat.le_of_ble_eq_true rfl) fun t5 n5 => s_nw n5 fun H5 e5 f5 => ?_
        refine ⟨q, _, _, rfl, rfl, e5 _ _ f3, by show _ < 16777216; exact Nat.le_of_ble_eq_true rfl, ?_⟩
        refine s_mw (e5 _ _ f3) fun H6 m6 i6 f6 => ?_
        have e06 : Ex H H6 := fun a o h => m6 a o (fun z => by rw [z, nqH] at h; cases h) (e5 _ _ (e03 _ _ h))
        have nt5 : t5 ≠ q := fun z => by rw [z, f3] at n5; cases n5
        have all6 : ∀ u ∈ _ ++ [V.ref t5], Alike K H6 u := fun u m => by
          rcases List.mem_append.mp m with m | m
          · exact alike_im (all3 u m) (e5.im.tr i6)
          · rw [List.mem_singleton.mp m]
            exact alike_1 (m6 _ _ nt5 f5) B.ok l10 B.i2
        exact hR _ _ ⟨e06, _, f6, Nat.le_of_ble_eq_true rfl, all6, rfl⟩
      · walk_at "uz"
        exact hR _ _ ⟨e03, _, f3, Nat.le_of_ble_eq_true rfl, all3, rfl⟩
  rintro σ' H4 ⟨e4, acc, f4, l4, all4, rfl⟩
  have hsq4 := e4 _ _ hsq
  walk_at "uz"
  refine s_ite (fun c => ?_) (fun c => ?_)
  · skip
    walk_at "uz"
    refine s_tyL (.of f4) ?_
    walk_at "uz"
    refine s_tupE ?_
    walk_at "uz"
    refine s_szN (Nat.le_of_ble_eq_true rfl) fun t5 n5 => s_nw n5 fun H5 e5 f5 => ?_
    refine ⟨q, _, _, rfl, rfl, e5 _ _ f4, by show _ < 16777216; omega, ?_⟩
    refine s_mw (e5 _ _ f4) fun H6 m6 i6 f6 => ?_
    have e06 : Ex H H6 := fun a o h => m6 a o (fun z => by rw [z, nqH] at h; cases h) (e5 _ _ (e4 _ _ h))
    have nt5 : t5 ≠ q := fun z => by rw [z, f4] at n5; cases n5
    have all6 : ∀ u ∈ _ ++ [V.ref t5], Alike K H6 u := fun u m => by
      rcases List.mem_append.mp m with m | m
      · exact alike_im (all4 u m) (e5.im.tr i6)
      · rw [List.mem_singleton.mp m]
        exact alike_2 (m6 _ _ nt5 f5) B.ok l10 B.i1
    walk_at "uz"
    exact k _ _ H6 e06 nqH f6 (by rw [List.length_append]; show _ + 1 ≤ 4; omega) all6
  · walk_at "uz"
    refine s_ite (fun c => ?_) (fun c => ?_)
    · skip
      walk_at "uz"
      refine s_tyL (.of f4) ?_
      walk_at "uz"
      refine s_tupE ?_
      walk_at "uz"
      refine s_szN (Nat.le_of_ble_eq_true rfl) fun t5 n5 => s_nw n5 fun H5 e5 f5 => ?_
      refine ⟨q, _, _, rfl, rfl, e5 _ _ f4, by show _ < 16777216; omega, ?_⟩
      refine s_mw (e5 _ _ f4) fun H6 m6 i6 f6 => ?_
      have e06 : Ex H H6 := fun a o h => m6 a o (fun z => by rw [z, nqH] at h; cases h) (e5 _ _ (e4 _ _ h))
      have nt5 : t5 ≠ q := fun z => by rw [z, f4] at n5; cases n5
      have all6 : ∀ u ∈ _ ++ [V.ref t5], Alike K H6 u := fun u m => by
        rcases List.mem_append.mp m with m | m
        · exact alike_im (all4 u m) (e5.im.tr i6)
        · rw [List.mem_singleton.mp m]
          exact alike_2 (m6 _ _ nt5 f5) B.ok l10 B.i1
      walk_at "uz"
      exact k _ _ H6 e06 nqH f6 (by rw [List.length_append]; show _ + 1 ≤ 4; omega) all6
    · walk_at "uz"
      exact k _ _ H4 e4 nqH f4 (by omega) all4
end

section
variable {P : Program} {w : World} {K : PySem.W.Frag} {mg : Str → Option Value} {base : Heap}
variable {cE cS cX cN cP cW cG cZ : Addr}
theorem ok_l_strangers_refused (T : Tp P K mg cE cS cX cN cP cW cG cZ)
    (c_World_contains : CalM P w K mg base 3 cW "__contains__" P_World_contains (spContB K cW))
    (c_World_gap : CalM P w K mg base 5 cW "gap" P_World_gap (spGapB K cW cS))
    (c_World_getitem : CalM P w K mg base 3 cW "__getitem__" P_World_getitem (spGetB K cW cS))
    (c_World_keeps : CalM P w K mg base 6 cW "keeps" P_World_keeps (spKeepsB K cW cS))
    (c_l_lacks : CalH P w K mg base 1 "_law_lacks" P_l_lacks (spLacksB K cS))
    {f : Addr} {fd : FuncData} {dvs : List V} (F : FunD K "_law_strangers_refused" "_law_strangers_refused" (defArgs s_l_strangers_refused) (defBody s_l_strangers_refused) (defScope s_l_strangers_refused) dvs [] f fd) : FnG P w K mg base 7 f fd P_l_strangers_refused (spStrange K cW) := by
  refine fng F sc_l_strangers_refused (by walk_at "ulen") (fun cdv A outer s H vs Q E hr0 hg0 h => ?_)
  have hr : Rm 6 (A.deeper (envOfC "_law_strangers_refused" (defScope s_l_strangers_refused) s.heap.objs.size f cdv)) := ⟨hr0, hg0⟩
  have nd : N_l_strangers_refused.Nodup := sc_l_strangers_refused.nd
  have tk : Takes (cxOf (L2.CX P w) P w K mg base N_l_strangers_refused "_law_strangers_refused" (defScope s_l_strangers_refused) f cdv A outer s H E) (fun cls d _ H => E cls d H) := takes_of rfl rfl rfl rfl
  obtain ⟨v, a, b, w, dt, ts, oa, ob, rfl, hw, G, asa, asb, asw, hdt, sh, cs, k⟩ := h
  obtain ⟨wa, dx, d, vs, rfl, hwa, hd, vl, R⟩ := id hw
  refine ⟨_, (pss_cons (ps_set (i := 4) nd rfl (Or.inl rfl) (pe_lst pa_nil))
    (pss_consJ (ps_tryC tk (fun W_ pn_ xe_ tkb pob =>
      (pss_one (ps_expr (pe_bmK (K := K) rfl PySem.F.plainAttrs_list PySem.F.slot_list_append PySem.F.type_list_append mt_append (pv 4) (pa_cons (pe_mG (E := WE _) (pv 0) c_World_gap (hr.mono (by decide)) (fun σ => passAt tkb σ) (pa_cons (pv 1) (pa_cons (pv 2) pa_nil))) pa_nil)))))
      (ClOk.named (i := 5) ⟨by rfl, by decide, Or.inl T.g_EllError⟩ nd rfl rfl
      (fun a_ oe_ cls_ d_ pn_ hz hf => (pss_one (ps_if (pt_not (pt_val (pe_cH (E := En) c_l_lacks (rmH_of hr (by decide)) ⟨_, List.mem_cons_self, hz, hf⟩ paN (pa_cons (pv 5) (pa_cons (pv 3) pa_nil))))) (pss_one (ps_ret pe_bl)) pss_nil)))
      ClOk.nil))
    (pss_consJ (ps_tryC tk (fun W_ pn_ xe_ tkb pob =>
      (pss_one (ps_expr (pe_bmK (K := K) rfl PySem.F.plainAttrs_list PySem.F.slot_list_append PySem.F.type_list_append mt_append (pv 4) (pa_cons (pe_mG (E := WE _) (pv 0) c_World_keeps (hr.mono (by decide)) (fun σ => passAt tkb σ) (pa_cons (pe_tup (pa_cons (pv 1) (pa_cons (pv 2) (pa_cons pe_int (pa_cons (pe_tup (pa_cons pe_str (pa_cons pe_int pa_nil))) pa_nil))))) pa_nil)) pa_nil)))))
      (ClOk.named (i := 5) ⟨by rfl, by decide, Or.inl T.g_EllError⟩ nd rfl rfl
      (fun a_ oe_ cls_ d_ pn_ hz hf => (pss_one (ps_if (pt_not (pt_val (pe_cH (E := En) c_l_lacks (rmH_of hr (by decide)) ⟨_, List.mem_cons_self, hz, hf⟩ paN (pa_cons (pv 5) (pa_cons (pv 3) pa_nil))))) (pss_one (ps_ret pe_bl)) pss_nil)))
      ClOk.nil))
    (pss_consJ (ps_tryC tk (fun W_ pn_ xe_ tkb pob =>
      (pss_one (ps_expr (pe_bmK (K := K) rfl PySem.F.plainAttrs_list PySem.F.slot_list_append PySem.F.type_list_append mt_append (pv 4) (pa_cons (pe_getO (E := WE _) (pv 0) (pv 3) c_World_getitem T.gi_World (hr.mono (by decide)) (fun σ => passAt tkb σ)) pa_nil)))))
      (ClOk.named (i := 5) ⟨by rfl, by decide, Or.inl T.g_EllError⟩ nd rfl rfl
      (fun a_ oe_ cls_ d_ pn_ hz hf => (pss_one (ps_if (pt_not (pt_val (pe_cH (E := En) c_l_lacks (rmH_of hr (by decide)) ⟨_, List.mem_cons_self, hz, hf⟩ paN (pa_cons (pv 5) (pa_cons (pv 3) pa_nil))))) (pss_one (ps_ret pe_bl)) pss_nil)))
      ClOk.nil))
    (pss_one (ps_ret (pe_and (pe_cmpR (op_uEq hr.r.units) (pv 4) (pe_lst pa_nil) (nomark _)) (pe_one (pe_cmpR (op_notInO c_World_contains (hr.mono (by decide))) (pv 3) (pv 0) rfl))))))))), ?_⟩
  walk_at "uk"
  walk_at "uz"
  refine s_lstE ?_
  walk_at "uz"
  refine s_szN (Nat.zero_le _) fun q nq => s_nw nq fun H1 e1 f1 => ?_
  have nqH : H q = none := nq
  walk_at "uj"
  refine s_seqJ (fun σ' H' => Ex H1 H' ∧ σ' = [some (.ref wa), some a, some b, some w, some (.ref q), none]) ?_ (fun R hR => ?_)
  rotate_left
  · walk_at "uz"
    refine s_tyL (.of f1) ?_
    have hw1 := wt_im hw e1.im
    walk_at "uz"
    refine ⟨wa, dx, _, rfl, e1 _ _ hwa, rfl, ?_⟩
    walk_at "uz"
    have both : (oa = none → w = a) ∧ ∀ p, oa = some p → ob = none ∧ w = b := by
      rcases cs with ⟨rfl, h⟩ | ⟨p, rfl, h1, h2⟩
      · exact ⟨fun _ => h, fun p z => by cases z⟩
      · exact ⟨(fun z => by cases z), fun _ _ => ⟨h1, h2⟩⟩
    refine ⟨_, a, b, ts, oa, ob, rfl, hw1, G, askt_ex asa e1, askt_ex asb e1, (fun p q hp hq => by rw [(both.2 p hp).1] at hq; cases hq), fun z e H2 e2 he => ?_, fun p hp z e H2 e2 he => ?_⟩
    · have wa2 := both.1 z
      subst wa2
      refine s_hit T.mSE fun a' ha' => ?_
      dsimp only [setO, endO]
      walk_at "us"
      refine ⟨e, _, _, dt, rfl, rfl, rfl, he, dp_ex (e1.tr e2) _ _ hdt, dp_ex (e1.tr e2) _ _ hdt, sh, fun H9 e9 => ?_⟩
      walk_at "us"
      exact hR _ _ ⟨(e2.tr e9), rfl⟩
    · have wb2 := (both.2 p hp).2
      subst wb2
      refine s_hit T.mSE fun a' ha' => ?_
      dsimp only [setO, endO]
      walk_at "us"
      refine ⟨e, _, _, dt, rfl, rfl, rfl, he, dp_ex (e1.tr e2) _ _ hdt, dp_ex (e1.tr e2) _ _ hdt, sh, fun H9 e9 => ?_⟩
      walk_at "us"
      exact hR _ _ ⟨(e2.tr e9), rfl⟩
  rintro σ' H3 ⟨e3, rfl⟩
  have e03 := e1.tr e3
  have f3 := e3 _ _ f1
  walk_at "uj"
  refine s_seqJ (fun σ' H' => Ex H1 H' ∧ σ' = [some (.ref wa), some a, some b, some w, some (.ref q), none]) ?_ (fun R hR => ?_)
  rotate_left
  · walk_at "uz"
    refine s_tyL (.of f3) ?_
    walk_at "uz"
    refine ⟨wa, dx, _, rfl, e03 _ _ hwa, rfl, ?_⟩
    walk_at "uz"
    refine s_tupE ?_
    walk_at "uz"
    refine s_tupE ?_
    walk_at "uz"
    refine s_szN (Nat.le_of_ble_eq_true rfl) fun t4 n4 => s_nw n4 fun H4 e4 f4 => ?_
    walk_at "uz"
    refine s_szN (Nat.le_of_ble_eq_true rfl) fun t5 n5 => s_nw n5 fun H5 e5 f5 => ?_
    have e05 := e03.tr (e4.tr e5)
    have e15 := e3.tr (e4.tr e5)
    walk_at "uz"
    have both : (oa = none → w = a) ∧ ∀ p, oa = some p → ob = none ∧ w = b := by
      rcases cs with ⟨rfl, h⟩ | ⟨p, rfl, h1, h2⟩
      · exact ⟨fun _ => h, fun p z => by cases z⟩
      · exact ⟨(fun z => by cases z), fun _ _ => ⟨h1, h2⟩⟩
    refine ⟨_, t5, a, b, _, ts, oa, ob, 3, rfl, .of f5, by decide, wt_im hw e05.im, G, askt_ex asa e05, askt_ex asb e05, (fun p q hp hq => by rw [(both.2 p hp).1] at hq; cases hq), fun z e H2 e2 he => ?_, fun p hp z e H2 e2 he => ?_⟩
    · have wa2 := both.1 z
      subst wa2
      refine s_hit T.mSE fun a' ha' => ?_
      dsimp only [setO, endO]
      walk_at "us"
      refine ⟨e, _, _, dt, rfl, rfl, rfl, he, dp_ex (e05.tr e2) _ _ hdt, dp_ex (e05.tr e2) _ _ hdt, sh, fun H9 e9 => ?_⟩
      walk_at "us"
      exact hR _ _ ⟨e15.tr (e2.tr e9), rfl⟩
    · have wb2 := (both.2 p hp).2
      subst wb2
      refine s_hit T.mSE fun a' ha' => ?_
      dsimp only [setO, endO]
      walk_at "us"
      refine ⟨e, _, _, dt, rfl, rfl, rfl, he, dp_ex (e05.tr e2) _ _ hdt, dp_ex (e05.tr e2) _ _ hdt, sh, fun H9 e9 => ?_⟩
      walk_at "us"
      exact hR _ _ ⟨e15.tr (e2.tr e9), rfl⟩
  rintro σ' H6 ⟨e6, rfl⟩
  have e06 := e1.tr e6
  have f6 := e6 _ _ f1
  clear e3 e03 f3
  walk_at "uj"
  refine s_seqJ (fun σ' H' => Ex H1 H' ∧ σ' = [some (.ref wa), some a, some b, some w, some (.ref q), none]) ?_ (fun R hR => ?_)
  rotate_left
  · walk_at "uz"
    refine s_tyL (.of f6) ?_
    walk_at "uz"
    refine ⟨wa, dx, _, rfl, e06 _ _ hwa, _, w, ts, none, rfl, wt_im hw e06.im, G.nd, askt_ex asw e06, (fun q hq => by cases hq), fun _ e H2 e2 he => ?_⟩
    refine s_hit T.mSE fun a' ha' => ?_
    dsimp only [setO, endO]
    walk_at "us"
    refine ⟨e, _, _, dt, rfl, rfl, rfl, he, dp_ex (e06.tr e2) _ _ hdt, dp_ex (e06.tr e2) _ _ hdt, sh, fun H9 e9 => ?_⟩
    walk_at "us"
    exact hR _ _ ⟨e6.tr (e2.tr e9), rfl⟩
  rintro σ' H7 ⟨e7, rfl⟩
  have e07 := e1.tr e7
  have f7 := e7 _ _ f1
  walk_at "uz"
  refine s_lstE ?_
  walk_at "uz"
  refine s_szN (Nat.zero_le _) fun q2 nq2 => s_nw nq2 fun H8 e8 f8 => ?_
  refine eq_data (d := .list []) (e := .list []) (.lst (.of (e8 _ _ f7)) .nil) (.lst (.of f8) .nil) rfl rfl ?_
  walk_at "uz"
  refine s_inW (wt_im hw (e07.tr e8).im) G.nd (askt_ex asw (e07.tr e8)) ?_
  walk_at "uz"
  exact k _ (e07.tr e8)
end

theorem gpos {ts : List Term} (G : GoodT ts) : 0 < ts.length := (List.getElem?_eq_some_iff.mp G.g).1
theorem add_ne {x t : Rat} (h : t ≠ 0) : x + t ≠ x := fun e => h (by
  have h2 := congrArg (fun y => -x + y) e
  simp only [← Rat.add_assoc, Rat.neg_add_cancel, Rat.zero_add] at h2
  exact h2)
section
variable {P : Program} {w : World} {K : PySem.W.Frag} {mg : Str → Option Value} {base : Heap}
variable {cE cS cX cN cP cW cG cZ : Addr}
theorem ok_l_equal_as_due (T : Tp P K mg cE cS cX cN cP cW cG cZ)
    (c_World_eq : CalM P w K mg base 1 cW "__eq__" P_World_eq (spEqB K cW))
    (c_World_init : CalC P w K mg base 4 "World" cW P_World_init (spInitB K cW cX))
    (c_l_choice : Cal P w K mg base 2 "_law_choice" P_l_choice [] (spChoice K))
    (c_l_pick : Cal P w K mg base 1 "_law_pick" P_l_pick [] (spPick))
    (c_l_plus : Cal P w K mg base 3 "_law_plus" P_l_plus [] (spPlus K))
    (c_l_ratio : Cal P w K mg base 2 "_law_ratio" P_l_ratio [] (spLRatio))
    (c_l_shuffled : Cal P w K mg base 2 "_law_shuffled" P_l_shuffled [] (spShuffledN K))
    (c_l_stranger : Cal P w K mg base 3 "_law_stranger" P_l_stranger [] (spStrangerD))
    {f : Addr} {fd : FuncData} {dvs : List V} (F : FunD K "_law_equal_as_due" "_law_equal_as_due" (defArgs s_l_equal_as_due) (defBody s_l_equal_as_due) (defScope s_l_equal_as_due) dvs [] f fd) : FnG P w K mg base 7 f fd P_l_equal_as_due (spEqDue K cW) := by
  refine fng F sc_l_equal_as_due (by walk_at "ulen") (fun cdv A outer s H vs Q E hr0 hg0 h => ?_)
  have hr : Rm 6 (A.deeper (envOfC "_law_equal_as_due" (defScope s_l_equal_as_due) s.heap.objs.size f cdv)) := ⟨hr0, hg0⟩
  have nd : N_l_equal_as_due.Nodup := sc_l_equal_as_due.nd
  have po : PassesOwn (model P w) (cxOf (L2.CX P w) P w K mg base N_l_equal_as_due "_law_equal_as_due" (defScope s_l_equal_as_due) f cdv A outer s H E).A (cxOf (L2.CX P w) P w K mg base N_l_equal_as_due "_law_equal_as_due" (defScope s_l_equal_as_due) f cdv A outer s H E).env (cxOf (L2.CX P w) P w K mg base N_l_equal_as_due "_law_equal_as_due" (defScope s_l_equal_as_due) f cdv A outer s H E).xe := passes_of rfl
  obtain ⟨b, v, p, us, ts, rfl, hb, hw, G, sz, l10, hp, ht, k⟩ := h
  obtain ⟨wa, dx, d, vs, rfl, hwa, hd, vl, R⟩ := id hw
  have ul := ht.len
  have g0 := gpos G
  refine ⟨_, (pss_cons (ps_set (i := 3) nd rfl (Or.inl rfl) (pe_mkG (E := En) c_World_init (hr.mono (by decide)) paN (pa_cons (pe_callTy call_uTup (by rfl) T.tuple b_tuple (pa_cons (pe_op op_uAdd (pe_slice sl_u (pv 2) po_none (po_some pe_int)) (pe_c (E := En) c_l_shuffled (hr.mono (by decide)) paN (pa_cons (pv 0) (pa_cons (pe_slice sl_u (pv 2) (po_some pe_int) po_none) pa_nil)))) pa_nil)) pa_nil)))
    (pss_cons (ps_if (PW.pt (pw_or (pt_not (pt_cmpO (E := En) (pv 1) (pv 3) c_World_eq (hr.mono (by decide)) paN)) (pw_or1 (pt_not (pt_cmpO (E := En) (pv 3) (pv 1) c_World_eq (hr.mono (by decide)) paN))))) (pss_one (ps_ret pe_bl)) pss_nil)
    (pss_cons (ps_set (i := 4) nd rfl (Or.inl rfl) (pe_lst (pa_cons (pe_op op_uAdd (pv 2) (pe_lst (pa_cons (pe_tup (pa_cons (pe_c (E := En) c_l_stranger (hr.mono (by decide)) paN (pa_cons (pv 0) (pa_cons (pe_lc (own := [("_law_pair", 5)]) (g := gName 5) (by rfl) nd (pi_list (pv 2)) (blkOk_by (own := [("_law_pair", 5)]) (N := N_l_equal_as_due) (sc := defScope s_l_equal_as_due) (by decide +kernel)) (fun s_ H_ C_ cl_ fp_ => pg_name (i := 5) nd rfl (Or.inl rfl)) (fun s_ H_ C_ cl_ fp_ => pts_nil) (fun s_ H_ C_ cl_ fp_ => (pe_ix (ix_seqK (K := K) rfl) (pv 5) pe_int (fun _ _ => rfl)))) pa_nil))) (pa_cons (pe_tup (pa_cons pe_int (pa_cons pe_int pa_nil))) pa_nil))) pa_nil))) pa_nil)))
    (pss_consJ (ps_if (pt_cmpR op_gt (pe_callB call_uLen (by rfl) T.len b_len (pa_cons (pv 2) pa_nil)) pe_int (nomark _)) (pss_cons (ps_set (i := 6) nd rfl (Or.inl rfl) (pe_op op_uAdd pe_int (pe_c (E := En) c_l_pick (hr.mono (by decide)) paN (pa_cons (pv 0) (pa_cons (pe_op op_sub (pe_callB call_uLen (by rfl) T.len b_len (pa_cons (pv 2) pa_nil)) pe_int) pa_nil)))))
    (pss_cons (ps_set (i := 7) nd rfl (Or.inl rfl) (pe_c (E := En) c_l_ratio (hr.mono (by decide)) paN (pa_cons (pe_c (E := En) c_l_choice (hr.mono (by decide)) paN (pa_cons (pv 0) (pa_cons (pe_lst (pa_cons pe_int (pa_cons (pe_un un_neg pe_int) pa_nil))) pa_nil))) (pa_cons (pe_op op_uAdd pe_int (pe_c (E := En) c_l_pick (hr.mono (by decide)) paN (pa_cons (pv 0) (pa_cons pe_int pa_nil)))) pa_nil))))
    (pss_cons (ps_set (i := 8) nd rfl (Or.inl rfl) (pe_tup (pa_cons (pe_ix ix_seq (pe_ix ix_seq (pv 2) (pv 6) (fun _ _ => rfl)) pe_int (fun _ _ => rfl)) (pa_cons (pe_c (E := En) c_l_plus (hr.mono (by decide)) paN (pa_cons (pe_ix ix_seq (pe_ix ix_seq (pv 2) (pv 6) (fun _ _ => rfl)) pe_int (fun _ _ => rfl)) (pa_cons (pv 7) pa_nil))) pa_nil))))
    (pss_cons (ps_expr (pe_bm PySem.F.plainAttrs_list PySem.F.slot_list_append PySem.F.type_list_append mt_append (pv 4) (pa_cons (pe_op op_uAdd (pe_op op_uAdd (pe_slice sl_u (pv 2) po_none (po_some (pv 6))) (pe_lst (pa_cons (pv 8) pa_nil))) (pe_slice sl_u (pv 2) (po_some (pe_op op_uAdd (pv 6) pe_int)) po_none)) pa_nil)))
    (pss_one (ps_expr (pe_bm PySem.F.plainAttrs_list PySem.F.slot_list_append PySem.F.type_list_append mt_append (pv 4) (pa_cons (pe_op op_uAdd (pe_slice sl_u (pv 2) po_none (po_some (pv 6))) (pe_slice sl_u (pv 2) (po_some (pe_op op_uAdd (pv 6) pe_int)) po_none)) pa_nil)))))))) pss_nil)
    (pss_cons (ps_for po rfl (pi_list (pv 4)) (pg_name (i := 9) nd rfl (Or.inl rfl))
    (pss_cons (ps_set (i := 10) nd rfl (Or.inl rfl) (pe_mkG (E := En) c_World_init (hr.mono (by decide)) paN (pa_cons (pv 9) pa_nil)))
    (pss_one (ps_if (PW.pt (pw_or (pt_cmpO (E := En) (pv 1) (pv 10) c_World_eq (hr.mono (by decide)) paN) (pw_or1 (pt_cmpO (E := En) (pv 10) (pv 1) c_World_eq (hr.mono (by decide)) paN)))) (pss_one (ps_ret pe_bl)) pss_nil))))
    (pss_one (ps_ret (pe_cmpR (op_uEq hr.r.units) (pe_lc (own := [("_law_thing", 11)]) (g := gName 11) (by rfl) nd (pi_list (pe_lst (pa_cons pe_non (pa_cons pe_int (pa_cons pe_str (pa_cons (pe_tup pa_nil) (pa_cons (pe_callTy call_uList (by rfl) T.list b_list (pa_cons (pv 2) pa_nil)) (pa_cons (pe_ix ix_seq (pv 2) pe_int (fun _ _ => rfl)) pa_nil)))))))) (blkOk_by (own := [("_law_thing", 11)]) (N := N_l_equal_as_due) (sc := defScope s_l_equal_as_due) (by decide +kernel)) (fun s_ H_ C_ cl_ fp_ => pg_name (i := 11) nd rfl (Or.inl rfl)) (fun s_ H_ C_ cl_ fp_ => pts_nil) (fun s_ H_ C_ cl_ fp_ => (pe_cmpOK (K := K) rfl (E := En) (pv 1) (pv 11) c_World_eq (hr.mono (by decide)) paN))) (pe_op op_uMul (pe_lst (pa_cons pe_bl pa_nil)) pe_int) (nomark _))))))))), ?_⟩
  walk_at "uk"
  walk_at "uz"
  refine s_slL (.of hp) fun q1 H1 e1 f1 => ?_
  rw [show (1 : Int) = ((1 : Nat) : Int) from rfl, cutV_to _ _ (by omega)] at f1
  walk_at "uz"
  refine s_slL (.of (e1 _ _ hp)) fun q2 H2 e2 f2 => ?_
  rw [show (1 : Int) = ((1 : Nat) : Int) from rfl, cutV_from _ _ (by omega)] at f2
  walk_at "uz"
  refine ⟨b, q2, us.drop 1, rfl, hb.ex (e1.tr e2), .of f2, by rw [List.length_drop]; omega, fun q3 ws H3 k3 pm f3 n3 => ?_⟩
  have k03 := (kb_e (kb_e (Kb.refl hb) e1) e2).tr k3
  have f13 := k3.at (e2 _ _ f1) fun _ z => by cases z
  have htd := terms_drop (terms_im ht k03.im) 1
  obtain ⟨ys, hty, pmy⟩ := terms_perm pm htd
  have wl := pm.length_eq
  walk_at "uz"
  refine s_catL (K := K) f13 f3 (by rw [List.length_take, wl, List.length_drop]; show _ ≤ 16777216; omega) fun q4 H4 n4 e4 f4 => ?_
  have tcat := terms_im (terms_cat (terms_take (terms_im ht k03.im) 1) hty) e4.im
  walk_at "uz"
  refine s_tupOfL (.of f4) fun q5 H5 e5 h5 => ?_
  have k05 := kb_e (kb_e k03 e4) e5
  have psame : (ts.take 1 ++ ys).Perm ts := by
    have : (ts.take 1 ++ ys).Perm (ts.take 1 ++ ts.drop 1) := List.Perm.append_left _ pmy
    rwa [List.take_append_drop] at this
  have Gs := good_perm G psame (gr_first G)
  walk_at "uz"
  refine s_mkB (.inr h5) (terms_im tcat e5.im) Gs fun a6 H6 e6 w6 => ?_
  have k06 := kb_e k05 e6
  have hw6 := wt_im hw k06.im
  walk_at "uz"
  refine s_eqW (P := P) (mg := mg) (cE := cE) (cS := cS) (cX := cX) (cN := cN) (cP := cP) (cG := cG) (cZ := cZ) T.tyW T.nfW hw6 w6 G Gs fun H7 e7 => ?_
  rw [sameT_of Gs.nd psame.length_eq.symm fun t m => psame.mem_iff.mpr m]
  walk_at "uz"
  refine s_eqW (P := P) (mg := mg) (cE := cE) (cS := cS) (cX := cX) (cN := cN) (cP := cP) (cG := cG) (cZ := cZ) T.tyW T.nfW (wt_im w6 e7.im) (wt_im hw6 e7.im) Gs G fun H8 e8 => ?_
  rw [sameT_of G.nd psame.length_eq fun t m => psame.mem_iff.mp m]
  have k08 := kb_e (kb_e k06 e7) e8
  have hp8 := k08.at hp fun _ z => by cases z
  have ht8 := terms_im ht k08.im
  clear k03 k05 k06 tcat hty f4 h5 f13 f3
  walk_at "uz"
  refine s_lstE ?_
  walk_at "uz"
  refine s_lstE ?_
  walk_at "uz"
  refine s_tupE ?_
  walk_at "uz"
  refine lcFst (.of hp8) ht8 (by omega) ?_ ?_
  rotate_left
  · intro C q a b H' hq hc
    refine ⟨rfl, ?_⟩
    walk_at "uz"
    exact hc
  intro D zs9 H9 e9 f9 s9
  have k09 := kb_e k08 e9
  walk_at "uz"
  refine ⟨b, D, zs9, _, rfl, k09.b1, f9, s9, by rw [List.length_map]; omega, by rw [List.length_map]; omega, (fun z m => by
    obtain ⟨t, mt, rfl⟩ := List.mem_map.mp m
    exact G.ok t mt), fun v10 z10 H10 k10 s10 nz zok zl zi1 zi2 => ?_⟩
  have Bz : SpB z10 := ⟨zok, zl, Nat.le_trans zi1 (Nat.pow_le_pow_right (by decide) (by decide)), Nat.le_trans zi2 (Nat.pow_le_pow_right (by decide) (by decide))⟩
  have k010 := k09.tr k10
  walk_at "uz"
  refine s_tupE ?_
  walk_at "uz"
  refine s_szN (Nat.le_of_ble_eq_true rfl) fun t11 n11 => s_nw n11 fun H11 e11 f11 => ?_
  walk_at "uz"
  refine s_szN (Nat.le_of_ble_eq_true rfl) fun t12 n12 => s_nw n12 fun H12 e12 f12 => ?_
  walk_at "uz"
  refine s_szN (Nat.le_of_ble_eq_true rfl) fun t13 n13 => s_nw n13 fun H13 e13 f13 => ?_
  have e1013 := e11.tr (e12.tr e13)
  have k013 := kb_e k010 e1013
  have tz : TermAt K H13 (.ref t12) (z10, 0) := ⟨t12, v10, .ref t11, rfl, .of (e13 _ _ f12), spot_im s10 e1013.im, ⟨t11, rfl, .of (e13 _ _ (e12 _ _ f11))⟩⟩
  have ht13 := terms_im ht k013.im
  walk_at "uz"
  refine s_catL (K := K) (k013.at hp fun _ z => by cases z) f13 (by show us.length + 1 ≤ 16777216; omega) fun q14 H14 n14 e14 f14 => ?_
  walk_at "uz"
  refine s_szN (Nat.le_of_ble_eq_true rfl) fun q15 n15 => s_nw n15 fun H15 e15 f15 => ?_
  have k014 := kb_e k013 e14
  have k015 := kb_e k014 e15
  have nq15 : H q15 = none := kb_none k014 n15
  have ne14 : (V.ref q14) ≠ .ref q15 := fun z => by cases z; rw [f14] at n15; cases n15
  have L15 : OthL K H15 ts q15 1 := by
    refine ⟨_, f15, Nat.le_of_ble_eq_true rfl, fun x m => ?_⟩
    rw [List.mem_singleton.mp m]
    refine ⟨ne14, q14, _, ts ++ [(z10, 0)], rfl, e15 _ _ f14, terms_im (terms_cat ht13 (terms_one tz)) (e14.tr e15).im, good_more G nz Bz ⟨by decide, by decide⟩ (by omega), sameT_len ?_, sameT_len ?_⟩
    · rw [List.length_append]; show _ ≠ _ + 1; omega
    · rw [List.length_append]; show _ + 1 ≠ _; omega
  clear k08 hp8 ht8 k09 k010 k013 k014 ht13 tz f14 f13 f12 f11 e14 e1013 s9 s10 n14 n13 n12 n11 e11 e12 e13
  walk_at "uj"
  refine s_seqJ (fun σ' H' => Kb b H H' ∧ ∃ o6 o7 o8, OthL K H' ts q15 3 ∧ σ' = [some (.ref b), some (.ref wa), some (.ref p), some (.ref a6), some (.ref q15), none, o6, o7, o8, none, none, none]) ?_ (fun R hR => ?_)
  rotate_left
  · walk_at "uz"
    have hp15 := k015.at hp fun _ z => by cases z
    have ht15 := terms_im ht k015.im
    walk_at "uz"
    rw [ul]
    refine s_ite (fun c => ?_) (fun c => ?_)
    · walk_at "uz"
      rw [ul]
      refine ⟨b, _, rfl, k015.b1, by omega, lt_log9000 (by omega), fun r H16 r0 r1 k16 => ?_⟩
      obtain ⟨n, hn⟩ : ∃ n : Nat, 1 + r = (n : Int) := ⟨(1 + r).toNat, by omega⟩
      have n1 : 1 ≤ n := by omega
      have nl : n < ts.length := by omega
      obtain ⟨t, htn⟩ : ∃ t, ts[n]? = some t := ⟨_, List.getElem?_eq_getElem nl⟩
      obtain ⟨x, hxn⟩ : ∃ x, us[n]? = some x := ⟨_, List.getElem?_eq_getElem (by omega)⟩
      walk_at "uz"
      rw [hn]
      refine s_lstE ?_
      walk_at "uz"
      refine s_szN (Nat.le_of_ble_eq_true rfl) fun q17 n17 => s_nw n17 fun H17 e17 f17 => ?_
      walk_at "uz"
      refine ⟨b, k16.b1.ex e17, .inl ⟨q17, _, rfl, .of f17, Nat.le_of_ble_eq_true rfl, Nat.le_of_ble_eq_true rfl, fun w H18 hw18 k18 => ?_⟩⟩
      obtain ⟨sg, rfl, sg1⟩ : ∃ sg : Int, w = .int sg ∧ (sg = 1 ∨ sg = -1) := by
        simp only [List.mem_cons, List.not_mem_nil, or_false] at hw18
        rcases hw18 with rfl | rfl
        · exact ⟨1, rfl, .inl rfl⟩
        · exact ⟨-1, rfl, .inr rfl⟩
      walk_at "uz"
      refine ⟨b, 3, rfl, k18.b1, by decide, by decide, fun r2 H19 r20 r21 k19 => ?_⟩
      walk_at "uz"
      refine ratioLQ (K := K) (md_one (Nat.le_trans (show sg.natAbs ≤ 10 ^ 2 by omega) (big_ge (by decide)))) (md_one (Nat.le_trans (show (1 + r2).natAbs ≤ 10 ^ 2 by omega) (big_ge (by decide)))) (by omega) fun w7 H20 e20 rq20 => ?_
      have s10 : Sz 10 (Rat.divInt sg (1 + r2)) := sz_int (by omega) (by omega) (by omega)
      have stp : Rat.divInt sg (1 + r2) ≠ 0 := num_nz.mp (by
        rw [(q_red (n := sg) (d := 1 + r2) (by rcases sg1 with rfl | rfl <;> simp) (by omega)).1]
        omega)
      generalize Rat.divInt sg (1 + r2) = stq at rq20 s10 stp
      have k1520 := kb_e ((kb_e k16 e17).tr (k18.tr k19)) e20
      have k020 := k015.tr k1520
      have L20 := othl_kb L15 k1520
      have hp20 := k020.at hp fun _ z => by cases z
      obtain ⟨xq, sa, fa, rfl, hxq0, hsa0, hfa0⟩ := ht.at_ n x t hxn htn
      have hxq := sqt_im hxq0 k020.im
      have hfa := rq_kb hfa0 k020
      have tsz := sz t (List.mem_of_getElem? htn)
      clear k16 e17 f17 k18 k19 e20 L15 f15 k1520 hp15 ht15
      walk_at "uz"
      refine s_tupE ?_
      walk_at "uz"
      refine s_ixL (.of hp20) (atI_nat hxn) ?_
      walk_at "uz"
      refine s_ixL (.of hp20) (atI_nat hxn) ?_
      walk_at "uz"
      refine plusQ (K := K) hfa rq20 (tsz.mono (big_ge (by decide))) (s10.mono (Nat.le_trans (show 10 ≤ 10 ^ 1 by decide) (big_ge (by decide)))) fun w21 H21 e21 r21q => ?_
      have msz : Sz (10 ^ 40) (t.2 + stq) := (tsz.add s10).mono (by decide)
      have mne : t.2 + stq ≠ t.2 := add_ne stp
      generalize t.2 + stq = mv at r21q msz mne
      walk_at "uz"
      refine s_szN (Nat.le_of_ble_eq_true rfl) fun t22 n22 => s_nw n22 fun H22 e22 f22 => ?_
      have e2022 := e21.tr e22
      have k022 := kb_e k020 e2022
      have tm22 : TermAt K H22 (.ref t22) (t.1, mv) := ⟨t22, sa, w21, rfl, .of f22, spot_im hsa0 k022.im, rq_ex r21q e22⟩
      have hp22 := e2022 _ _ hp20
      have ht22 := terms_im ht k022.im
      have L22 := othl_ex L20 e2022
      obtain ⟨xs22, f22q, l22, a22⟩ := id L22
      clear L20 hp20 k020 e21 r21q rq20
      walk_at "uz"
      refine s_tyL (.of f22q) ?_
      walk_at "uz"
      refine s_slL (.of hp22) fun q23 H23 e23 f23 => ?_
      rw [cutV_to _ _ (by omega)] at f23
      walk_at "uz"
      refine s_lstE ?_
      walk_at "uz"
      refine s_szN (Nat.le_of_ble_eq_true rfl) fun q24 n24 => s_nw n24 fun H24 e24 f24 => ?_
      refine s_catL (K := K) (e24 _ _ f23) f24 (by rw [List.length_take]; show _ + 1 ≤ 16777216; omega) fun q25 H25 n25 e25 f25 => ?_
      have e2225 := e23.tr (e24.tr e25)
      walk_at "uz"
      refine s_slL (.of (e2225 _ _ hp22)) fun q26 H26 e26 f26 => ?_
      rw [show (n : Int) + 1 = ((n + 1 : Nat) : Int) from rfl, cutV_from _ _ (by omega)] at f26
      walk_at "uz"
      refine s_catL (K := K) (e26 _ _ f25) f26 (by rw [List.length_append, List.length_take, List.length_drop]; show _ + 1 + _ ≤ 16777216; omega) fun q27 H27 n27 e27 f27 => ?_
      have e2227 := e2225.tr (e26.tr e27)
      have k027 := kb_e k022 e2227
      have O27 : OthR K H27 ts (.ref q27) := ⟨q27, _, _, rfl, f27, terms_cat (terms_cat (terms_take (terms_im ht22 e2227.im) n) (terms_one (term_im tm22 e2227.im))) (terms_drop (terms_im ht22 e2227.im) (n + 1)), good_mov G htn n1 msz, (mov_ne G htn n1 msz mne).1, (mov_ne G htn n1 msz mne).2⟩
      have f27q := e2227 _ _ f22q
      have nq27 : q27 ≠ q15 := fun z => by rw [z, (e2225.tr e26) _ _ f22q] at n27; cases n27
      refine ⟨q15, _, _, rfl, rfl, f27q, by show _ < 16777216; omega, ?_⟩
      refine s_mw f27q fun H28 m28 i28 f28 => ?_
      have L28 := othl_put f27q l22 (fun x m => ⟨(a22 x m).1, oth_ex (a22 x m).2 e2227⟩) nq27 O27 m28 i28 f28
      have k028 := kb_mx nq15 k027 m28 f28
      have hp28 := k028.at hp fun _ z => by cases z
      have ht28 := terms_im ht k028.im
      obtain ⟨xs28, f28q, l28, a28⟩ := id L28
      clear k027 O27 f27q f27 f26 f25 f24 f23 e2225 e2227 e23 e24 e25 e26 e27 hp22 ht22 L22 f22q l22 a22 f28 m28 i28
      walk_at "uz"
      refine s_tyL (.of f28q) ?_
      walk_at "uz"
      refine s_slL (.of hp28) fun q29 H29 e29 f29 => ?_
      rw [cutV_to _ _ (by omega)] at f29
      walk_at "uz"
      refine s_slL (.of (e29 _ _ hp28)) fun q30 H30 e30 f30 => ?_
      rw [show (n : Int) + 1 = ((n + 1 : Nat) : Int) from rfl, cutV_from _ _ (by omega)] at f30
      walk_at "uz"
      refine s_catL (K := K) (e30 _ _ f29) f30 (by rw [List.length_take, List.length_drop]; show _ ≤ 16777216; omega) fun q31 H31 n31 e31 f31 => ?_
      have e2831 := e29.tr (e30.tr e31)
      obtain ⟨gd1, gd2⟩ := good_del G htn n1
      have O31 : OthR K H31 ts (.ref q31) := ⟨q31, _, _, rfl, f31, terms_cat (terms_take (terms_im ht28 e2831.im) n) (terms_drop (terms_im ht28 e2831.im) (n + 1)), gd1, sameT_len (Ne.symm gd2), sameT_len gd2⟩
      have f31q := e2831 _ _ f28q
      have nq31 : q31 ≠ q15 := fun z => by rw [z, (e29.tr e30) _ _ f28q] at n31; cases n31
      refine ⟨q15, _, _, rfl, rfl, f31q, by show _ < 16777216; omega, ?_⟩
      refine s_mw f31q fun H32 m32 i32 f32 => ?_
      have L32 := othl_put f31q l28 (fun x m => ⟨(a28 x m).1, oth_ex (a28 x m).2 e2831⟩) nq31 O31 m32 i32 f32
      exact hR _ _ ⟨kb_mx nq15 (kb_e k028 e2831) m32 f32, _, _, _, L32, rfl⟩
    · walk_at "uz"
      exact hR _ _ ⟨k015, _, _, _, (let ⟨xs, h1, h2, h3⟩ := L15; ⟨xs, h1, by omega, h3⟩), rfl⟩
  rintro σ' H20 ⟨k20, o6, o7, o8, ⟨xs, f20, xl, all20⟩, rfl⟩
  walk_at "uz"
  refine loopL (xs := xs) (fun i σ' H' => Ex H20 H' ∧ ∃ o9 o10, σ' = [some (.ref b), some (.ref wa), some (.ref p), some (.ref a6), some (.ref q15), none, o6, o7, o8, o9, o10, none]) ⟨exR _, none, none, rfl⟩ (fun i σ' H' h => .of (h.1 _ _ f20)) ?_ ?_
  rotate_left
  · rintro i x σ' H21 hx ⟨e21, o9, o10, rfl⟩
    obtain ⟨_, rp, rus, rys, rfl, hr, htr, Gr, s1, s2⟩ := all20 x (List.mem_of_getElem? hx)
    have k021 := kb_e k20 e21
    walk_at "uz"
    refine s_mkB (.inl (.of (e21 _ _ hr))) (terms_im htr e21.im) Gr fun a22 H22 e22 w22 => ?_
    have hw22 := wt_im hw (kb_e k021 e22).im
    walk_at "uz"
    refine s_eqW (P := P) (mg := mg) (cE := cE) (cS := cS) (cX := cX) (cN := cN) (cP := cP) (cG := cG) (cZ := cZ) T.tyW T.nfW hw22 w22 G Gr fun H23 e23 => ?_
    rw [s1]
    walk_at "uz"
    refine s_eqW (P := P) (mg := mg) (cE := cE) (cS := cS) (cX := cX) (cN := cN) (cP := cP) (cG := cG) (cZ := cZ) T.tyW T.nfW (wt_im w22 e23.im) (wt_im hw22 e23.im) Gr G fun H24 e24 => ?_
    rw [s2]
    walk_at "uz"
    exact ⟨e21.tr (e22.tr (e23.tr e24)), _, _, rfl⟩
  rintro σ' H21 ⟨e21, o9, o10, rfl⟩
  have k021 := kb_e k20 e21
  have hp21 := k021.at hp fun _ z => by cases z
  walk_at "uz"
  refine s_lstE ?_
  walk_at "uz"
  refine s_tupE ?_
  walk_at "uz"
  refine s_szN (Nat.zero_le _) fun t22 n22 => s_nw n22 fun H22 e22 f22 => ?_
  walk_at "uz"
  refine s_listL (.of (e22 _ _ hp21)) fun l23 n23 => s_nw n23 fun H23 e23 f23 => ?_
  have e2123 := e22.tr e23
  obtain ⟨x0, hx0⟩ : ∃ x, us[0]? = some x := ⟨_, List.getElem?_eq_getElem (by omega)⟩
  obtain ⟨t0, _, _, xq, sa, fa, rfl, hxq, _⟩ := term_of ht hx0
  walk_at "uz"
  refine s_ixL (.of (e2123 _ _ hp21)) (atI_nat (j := 0) hx0) ?_
  walk_at "uz"
  refine s_szN (Nat.le_of_ble_eq_true rfl) fun l24 n24 => s_nw n24 fun H24 e24 f24 => ?_
  have e2124 := e2123.tr e24
  have k024 := kb_e k021 e2124
  have key : ∀ H', Ex H24 H' → ∀ x ∈ [V.non, .int 0, .str "", .ref t22, .ref l23, .ref xq], ∃ t, TyX K H' x t ∧ PySem.W.notFirst K cW t = true ∧ OtherV K H' x := fun H' e x m => by
    simp only [List.mem_cons, List.not_mem_nil, or_false] at m
    have f22' : SqT K H' t22 [] := .of (e _ _ (e24 _ _ (e23 _ _ f22)))
    have f23' := e _ _ (e24 _ _ f23)
    have hxq' := sqt_im hxq (k024.im.tr e.im)
    rcases m with rfl | rfl | rfl | rfl | rfl | rfl
    · exact ⟨_, .base .non, T.nfN, .inl rfl⟩
    · exact ⟨_, .base (.int 0), T.nfI, .inr (.inl ⟨0, rfl⟩)⟩
    · exact ⟨_, .base (.str _), T.nfT, .inr (.inr (.inl ⟨_, rfl⟩))⟩
    · exact ⟨_, tyx_tup f22', T.nfU, .inr (.inr (.inr (.inl ⟨_, _, rfl, f22'⟩)))⟩
    · exact ⟨_, .base (.lst f23'), T.nfL, .inr (.inr (.inr (.inr ⟨_, _, rfl, f23'⟩)))⟩
    · exact ⟨_, tyx_tup hxq', T.nfU, .inr (.inr (.inr (.inl ⟨_, _, rfl, hxq'⟩)))⟩
  have hw24 := wt_im hw k024.im
  refine lcC (.of f24) (Nat.le_of_ble_eq_true rfl) (fun j v _ => v = .bl false) imp_pure ?_ ?_
  rotate_left
  · intro C i x H' hx e hc
    obtain ⟨t, ty, nf, ov⟩ := key H' e x (List.mem_of_getElem? hx)
    refine ⟨rfl, ?_⟩
    walk_at "uz"
    refine s_eqO ty nf (wt_im hw24 e.im) G ov ?_
    exact hc _ _ (exR _) rfl
  intro D ys H25 e25 f25 yl hy
  have y6 : ys = [.bl false, .bl false, .bl false, .bl false, .bl false, .bl false] := by
    have : ys = List.replicate 6 (V.bl false) := List.eq_replicate_iff.mpr ⟨yl, fun b hb => by
      obtain ⟨j, hj⟩ := List.mem_iff_getElem?.mp hb
      exact hy j b hj⟩
    exact this
  subst y6
  walk_at "uz"
  refine s_lstE ?_
  walk_at "uz"
  refine s_szN (Nat.le_of_ble_eq_true rfl) fun l26 n26 => s_nw n26 fun H26 e26 f26 => ?_
  refine s_repL (K := K) f26 (by decide) (by decide) (Nat.le_of_ble_eq_true rfl) fun l27 H27 n27 e27 f27 => ?_
  refine eq_data (d := .list [.bool false, .bool false, .bool false, .bool false, .bool false, .bool false]) (e := .list [.bool false, .bool false, .bool false, .bool false, .bool false, .bool false]) (.lst (.of (e27 _ _ (e26 _ _ f25))) (.cons (.bl _) (.cons (.bl _) (.cons (.bl _) (.cons (.bl _) (.cons (.bl _) (.cons (.bl _) .nil))))))) (.lst (.of f27) (.cons (.bl _) (.cons (.bl _) (.cons (.bl _) (.cons (.bl _) (.cons (.bl _) (.cons (.bl _) .nil))))))) (by decide +kernel) (by decide +kernel) ?_
  exact k _ (kb_e k024 (e25.tr (e26.tr e27)))
end

section
variable {P : Program} {w : World} {K : PySem.W.Frag} {mg : Str → Option Value} {base : Heap}
variable {cE cS cX cN cP cW cG cZ : Addr}
theorem ok_l_mixed_as_due (T : Tp P K mg cE cS cX cN cP cW cG cZ)
    (c_higher : Cal P w K mg base 7 "higher" P_higher [] (spHigherB K cW cS 1))
    (c_l_lacks : CalH P w K mg base 1 "_law_lacks" P_l_lacks (spLacksB K cS))
    (c_l_less : Cal P w K mg base 1 "_law_less" P_l_less [] (spLess K))
    (c_l_told_well : Cal P w K mg base 5 "_law_told_well" P_l_told_well [] (spTold K cW))
    (c_lower : Cal P w K mg base 7 "lower" P_lower [] (spHigherB K cW cS (-1)))
    {f : Addr} {fd : FuncData} {dvs : List V} (F : FunD K "_law_mixed_as_due" "_law_mixed_as_due" (defArgs s_l_mixed_as_due) (defBody s_l_mixed_as_due) (defScope s_l_mixed_as_due) dvs [] f fd) : FnG P w K mg base 8 f fd P_l_mixed_as_due (spMixDue K cW) := by
  refine fng F sc_l_mixed_as_due (by walk_at "ulen") (fun cdv A outer s H vs Q E hr0 hg0 h => ?_)
  have hr : Rm 7 (A.deeper (envOfC "_law_mixed_as_due" (defScope s_l_mixed_as_due) s.heap.objs.size f cdv)) := ⟨hr0, hg0⟩
  have nd : N_l_mixed_as_due.Nodup := sc_l_mixed_as_due.nd
  have tk : Takes (cxOf (L2.CX P w) P w K mg base N_l_mixed_as_due "_law_mixed_as_due" (defScope s_l_mixed_as_due) f cdv A outer s H E) (fun cls d _ H => E cls d H) := takes_of rfl rfl rfl rfl
  have po : PassesOwn (model P w) (cxOf (L2.CX P w) P w K mg base N_l_mixed_as_due "_law_mixed_as_due" (defScope s_l_mixed_as_due) f cdv A outer s H E).A (cxOf (L2.CX P w) P w K mg base N_l_mixed_as_due "_law_mixed_as_due" (defScope s_l_mixed_as_due) f cdv A outer s H E).env (cxOf (L2.CX P w) P w K mg base N_l_mixed_as_due "_law_mixed_as_due" (defScope s_l_mixed_as_due) f cdv A outer s H E).xe := passes_of rfl
  obtain ⟨v, w, p, q, us, ws, ts, ys, rfl, hv, hw, G, G2, hp, ht, hq, hty, k⟩ := h
  have ul := ht.len
  have wl := hty.len
  have l40 := G.len
  have y40 := G2.len
  refine ⟨_, (pss_cons (ps_set (i := 4) nd rfl (Or.inr rfl) (pe_lc (own := [("_law_pair", 5)]) (g := gName 5) (by rfl) nd (pi_list (pv 3)) (blkOk_by (own := [("_law_pair", 5)]) (N := N_l_mixed_as_due) (sc := defScope s_l_mixed_as_due) (by decide +kernel)) (fun s_ H_ C_ cl_ fp_ => pg_name (i := 5) nd rfl (Or.inl rfl)) (fun s_ H_ C_ cl_ fp_ => pts_nil) (fun s_ H_ C_ cl_ fp_ => (pe_ix (ix_seqK (K := K) rfl) (pv 5) pe_int (fun _ _ => rfl)))))
    (pss_cons (ps_set (i := 6) nd rfl (Or.inr rfl) (pe_lc (own := [("_law_pair", 5)]) (g := gName 5) (by rfl) nd (pi_list (pv 2)) (blkOk_by (own := [("_law_pair", 5)]) (N := N_l_mixed_as_due) (sc := defScope s_l_mixed_as_due) (by decide +kernel)) (fun s_ H_ C_ cl_ fp_ => pg_name (i := 5) nd rfl (Or.inl rfl)) (fun s_ H_ C_ cl_ fp_ => pts_nil) (fun s_ H_ C_ cl_ fp_ => (pe_ix (ix_seqK (K := K) rfl) (pv 5) pe_int (fun _ _ => rfl)))))
    (pss_cons (ps_set (i := 7) nd rfl (Or.inl rfl) (pe_op op_uAdd (pe_lc (own := [("_law_spot", 8)]) (g := gName 8) (by rfl) nd (pi_list (pv 6)) (blkOk_by (own := [("_law_spot", 8)]) (N := N_l_mixed_as_due) (sc := defScope s_l_mixed_as_due) (by decide +kernel)) (fun s_ H_ C_ cl_ fp_ => pg_name (i := 8) nd rfl (Or.inl rfl)) (fun s_ H_ C_ cl_ fp_ => (pts_one (pt_cmpR (op_notInDK (K := K) rfl (hu65 hr.r)) (pv 8) (pv 4) rfl))) (fun s_ H_ C_ cl_ fp_ => (pv 8))) (pe_lc (own := [("_law_spot", 8)]) (g := gName 8) (by rfl) nd (pi_list (pv 4)) (blkOk_by (own := [("_law_spot", 8)]) (N := N_l_mixed_as_due) (sc := defScope s_l_mixed_as_due) (by decide +kernel)) (fun s_ H_ C_ cl_ fp_ => pg_name (i := 8) nd rfl (Or.inl rfl)) (fun s_ H_ C_ cl_ fp_ => (pts_one (pt_cmpR (op_notInDK (K := K) rfl (hu65 hr.r)) (pv 8) (pv 6) rfl))) (fun s_ H_ C_ cl_ fp_ => (pv 8)))))
    (pss_cons (ps_set (i := 9) nd rfl (Or.inl rfl) (pe_lst pa_nil))
    (pss_cons (ps_for po rfl (pi_range1 (by rfl) T.range (pa_cons pe_int pa_nil)) (pg_name (i := 10) nd rfl (Or.inl rfl))
    (pss_one (ps_tryC tk (fun W_ pn_ xe_ tkb pob =>
      (pss_one (ps_expr (pe_bmK (K := K) rfl PySem.F.plainAttrs_list PySem.F.slot_list_append PySem.F.type_list_append mt_append (pv 9) (pa_cons (pe_ifExp (pt_cmpR (op_uEqK (K := K) rfl hr.r.units) (pv 10) pe_int (nomark _)) (pe_c c_higher (hr.mono (by decide)) (fun σ => passAt tkb σ) (pa_cons (pv 0) (pa_cons (pv 1) pa_nil))) (pe_c c_lower (hr.mono (by decide)) (fun σ => passAt tkb σ) (pa_cons (pv 0) (pa_cons (pv 1) pa_nil)))) pa_nil)))))
      (ClOk.named (i := 11) ⟨by rfl, by decide, Or.inl T.g_EllError⟩ nd rfl rfl
      (fun a_ oe_ cls_ d_ pn_ hz hf => (pss_one (ps_if (PW.pt (pw_or (pt_cmpR (op_uEqK (K := K) rfl hr.r.units) (pv 7) (pe_lst pa_nil) (nomark _)) (pw_or1 (pt_not (pt_val (pe_cH (E := En) c_l_lacks (rmH_of hr (by decide)) ⟨_, List.mem_cons_self, hz, hf⟩ paN (pa_cons (pv 11) (pa_cons (pe_ix (ix_seqK (K := K) rfl) (pv 7) pe_int (fun _ _ => rfl)) pa_nil)))))))) (pss_one (ps_ret pe_bl)) pss_nil)))
      ClOk.nil))))
    (pss_cons (ps_if (pt_cmpR (op_uNe hr.r.units) (pv 7) (pe_lst pa_nil) (nomark _)) (pss_one (ps_ret (pe_cmpR (op_uEq hr.r.units) (pv 9) (pe_lst pa_nil) (nomark _)))) pss_nil)
    (pss_cons (ps_set (i := 12) nd rfl (Or.inl rfl) pe_dnewT)
    (pss_cons (ps_for po rfl (pi_list (pv 3)) (pg_name (i := 5) nd rfl (Or.inl rfl))
    (pss_one (ps_dput (hu_of hr.r) (pv 12) (pe_ix ix_seq (pv 5) pe_int (fun _ _ => rfl)) (pe_ix ix_seq (pv 5) pe_int (fun _ _ => rfl)) rfl)))
    (pss_cons (ps_set (i := 13) nd rfl (Or.inl rfl) (pe_lst pa_nil))
    (pss_cons (ps_set (i := 14) nd rfl (Or.inl rfl) (pe_lst pa_nil))
    (pss_cons (ps_for po rfl (pi_list (pv 2)) (pg_name (i := 5) nd rfl (Or.inl rfl))
    (pss_cons (ps_set (i := 15) nd rfl (Or.inl rfl) (pe_c (E := En) c_l_less (hr.mono (by decide)) paN (pa_cons (pe_ix ix_seq (pv 5) pe_int (fun _ _ => rfl)) (pa_cons (pe_dget (hu_of hr.r) (pv 12) (pe_ix ix_seq (pv 5) pe_int (fun _ _ => rfl)) (fun _ _ => rfl)) pa_nil))))
    (pss_cons (ps_expr (pe_bm PySem.F.plainAttrs_list PySem.F.slot_list_append PySem.F.type_list_append mt_append (pv 13) (pa_cons (pe_tup (pa_cons (pe_ix ix_seq (pv 5) pe_int (fun _ _ => rfl)) (pa_cons (pe_ifExp (pt_val (pv 15)) (pe_dget (hu_of hr.r) (pv 12) (pe_ix ix_seq (pv 5) pe_int (fun _ _ => rfl)) (fun _ _ => rfl)) (pe_ix ix_seq (pv 5) pe_int (fun _ _ => rfl))) pa_nil))) pa_nil)))
    (pss_one (ps_expr (pe_bm PySem.F.plainAttrs_list PySem.F.slot_list_append PySem.F.type_list_append mt_append (pv 14) (pa_cons (pe_tup (pa_cons (pe_ix ix_seq (pv 5) pe_int (fun _ _ => rfl)) (pa_cons (pe_ifExp (pt_val (pv 15)) (pe_ix ix_seq (pv 5) pe_int (fun _ _ => rfl)) (pe_dget (hu_of hr.r) (pv 12) (pe_ix ix_seq (pv 5) pe_int (fun _ _ => rfl)) (fun _ _ => rfl))) pa_nil))) pa_nil)))))))
    (pss_one (ps_ret (pe_and (pe_c (E := En) c_l_told_well (hr.mono (by decide)) paN (pa_cons (pe_ix ix_seq (pv 9) pe_int (fun _ _ => rfl)) (pa_cons (pv 13) pa_nil))) (pe_one (pe_c (E := En) c_l_told_well (hr.mono (by decide)) paN (pa_cons (pe_ix ix_seq (pv 9) pe_int (fun _ _ => rfl)) (pa_cons (pv 14) pa_nil)))))))))))))))))), ?_⟩
  walk_at "uk"
  walk_at "uz"
  refine lcFst (.of hq) hty (by omega) ?_ ?_
  rotate_left
  · intro C q a b H' hq hc
    refine ⟨rfl, ?_⟩
    walk_at "uz"
    exact hc
  intro D1 zs1 H1 e1 f1 s1
  walk_at "uz"
  refine lcFst (.of (e1 _ _ hp)) (terms_im ht e1.im) (by omega) ?_ ?_
  rotate_left
  · intro C q a b H' hq hc
    refine ⟨rfl, ?_⟩
    walk_at "uz"
    exact hc
  intro D2 zs2 H2 e2 f2 s2
  have e02 := e1.tr e2
  walk_at "uz"
  refine lcF (K := K) (.of f2) s2 (fun z => decide (z ∉ ys.map fun t => t.1)) (by rw [List.length_map]; omega) ?_ ?_
  rotate_left
  · intro C C' i x z H' hx hz sx e c1 c2
    have zok := good_sp G z (List.mem_of_getElem? hz)
    refine ⟨rfl, ?_⟩
    walk_at "uz"
    refine notin_spots sx (.of (e _ _ (e2 _ _ f1))) (spots_im s1 (e2.im.tr e.im)) (good_sp G2) zok ?_
    by_cases c : z ∈ ys.map fun t => t.1
    · rw [decide_eq_true c]
      exact ⟨_, rfl, c2 (by simpa using c)⟩
    · rw [decide_eq_false c]
      refine ⟨_, rfl, ?_⟩
      rw [Bool.not_false, if_pos rfl]
      walk_at "uz"
      exact c1 (by simpa using c)
  intro D3 zs3 H3 n3 e3 f3 s3
  have f13 := e3 _ _ (e2 _ _ f1)
  have f23 := e3 _ _ f2
  have e03 := e02.tr e3
  walk_at "uz"
  refine lcF (K := K) (.of f13) (spots_im s1 (e2.im.tr e3.im)) (fun z => decide (z ∉ ts.map fun t => t.1)) (by rw [List.length_map]; omega) ?_ ?_
  rotate_left
  · intro C C' i x z H' hx hz sx e c1 c2
    have zok := good_sp G2 z (List.mem_of_getElem? hz)
    refine ⟨rfl, ?_⟩
    walk_at "uz"
    refine notin_spots sx (.of (e _ _ f23)) (spots_im s2 (e3.im.tr e.im)) (good_sp G) zok ?_
    by_cases c : z ∈ ts.map fun t => t.1
    · rw [decide_eq_true c]
      exact ⟨_, rfl, c2 (by simpa using c)⟩
    · rw [decide_eq_false c]
      refine ⟨_, rfl, ?_⟩
      rw [Bool.not_false, if_pos rfl]
      walk_at "uz"
      exact c1 (by simpa using c)
  intro D4 zs4 H4 n4 e4 f4 s4
  have f34 := e4 _ _ f3
  have l3 := s3.len
  have l4 := s4.len
  have l3' := List.length_filter_le (fun z => decide (z ∉ ys.map fun t => t.1)) (ts.map fun t => t.1)
  have l4' := List.length_filter_le (fun z => decide (z ∉ ts.map fun t => t.1)) (ys.map fun t => t.1)
  rw [List.length_map] at l3' l4'
  walk_at "uz"
  refine s_catL (K := K) f34 f4 (by show _ ≤ 16777216; omega) fun D5 H5 n5 e5 f5 => ?_
  have s5 : SpotsX H5 (zs3 ++ zs4) (lostT ts ys) := by
    have a := spots_im s3 (e4.im.tr e5.im)
    have b := spots_im s4 e5.im
    refine ⟨by unfold lostT; rw [List.length_append, List.length_append, l3, l4], fun i v z h1 h2 => ?_⟩
    unfold lostT at h2
    by_cases c : i < zs3.length
    · rw [List.getElem?_append_left c] at h1
      rw [List.getElem?_append_left (by omega)] at h2
      exact a.at_ i v z h1 h2
    · rw [List.getElem?_append_right (by omega)] at h1
      rw [List.getElem?_append_right (by omega), ← l3] at h2
      exact b.at_ _ v z h1 h2
  generalize zs3 ++ zs4 = zs5 at f5 s5
  have e05 := e03.tr (e4.tr e5)
  have lok : ∀ z ∈ lostT ts ys, SpB z := fun z m => by
    unfold lostT at m
    rcases List.mem_append.mp m with m | m
    · obtain ⟨t, mt, rfl⟩ := List.mem_map.mp (List.mem_filter.mp m).1
      exact G.ok t mt
    · obtain ⟨t, mt, rfl⟩ := List.mem_map.mp (List.mem_filter.mp m).1
      exact G2.ok t mt
  clear f1 s1 e1 f2 s2 e2 e02 f3 s3 e3 f13 f23 e03 f4 s4 e4 e5 f34 l3 l4 l3' l4' n3 n4
  walk_at "uz"
  refine s_lstE ?_
  walk_at "uz"
  refine s_szN (Nat.zero_le _) fun q6 n6 => s_nw n6 fun H6 e6 f6 => ?_
  have e06 := e05.tr e6
  have f56 := e6 _ _ f5
  have s56 := spots_im s5 e6.im
  have nq6 : H q6 = none := by
    cases y : H q6 with
    | none => rfl
    | some o => rw [e05 _ _ y] at n6; cases n6
  walk_at "uz"
  refine ⟨2, rfl, by decide, by decide, ?_⟩
  cases hl : lostT ts ys with
  | cons z0 zr =>
    rw [hl] at s56 lok
    have B0 := lok z0 List.mem_cons_self
    obtain ⟨x0, hx0⟩ : ∃ x, zs5[0]? = some x := ⟨_, List.getElem?_eq_getElem (by have := s56.len; rw [List.length_cons] at this; omega)⟩
    have sx0 := s56.at_ 0 x0 z0 hx0 rfl
    refine loopR (n := (2 : Int).toNat) (fun i σ' H' => Ex H6 H' ∧ ∃ o10, σ' = [some v, some w, some (.ref p), some (.ref q), some (.ref D1), none, some (.ref D2), some (.ref D5), none, some (.ref q6), o10, none, none, none, none, none]) ⟨exR _, none, rfl⟩ ?_ ?_
    · rintro σ' H7 ⟨e7, o10, rfl⟩
      have s57 := spots_im s56 e7.im
      have f57 := e7 _ _ f56
      walk_at "uz"
      refine s_lstE ?_
      walk_at "uz"
      refine s_szN (Nat.zero_le _) fun q8 n8 => s_nw n8 fun H8 e8 f8 => ?_
      refine ne_data (d := .list ((z0 :: zr).map spotD)) (e := .list []) (.lst (.of (e8 _ _ f57)) (spots_dpa (spots_im s57 e8.im))) (.lst (.of f8) .nil) (spots_shl fun z m => (lok z m).ok) rfl ?_
      rw [show PyData.eqv (.list ((z0 :: zr).map spotD)) (.list []) = false from rfl]
      walk_at "uz"
      refine s_lstE ?_
      walk_at "uz"
      refine s_szN (Nat.zero_le _) fun q9 n9 => s_nw n9 fun H9 e9 f9 => ?_
      refine eq_data (d := .list []) (e := .list []) (.lst (.of (e9 _ _ (e8 _ _ (e7 _ _ f6)))) .nil) (.lst (.of f9) .nil) rfl rfl ?_
      exact k _ (e06.tr (e7.tr (e8.tr e9)))
    · rintro i σ' H7 hi ⟨e7, o10, rfl⟩
      have e07 := e06.tr e7
      have s57 := spots_im s56 e7.im
      have f57 := e7 _ _ f56
      have hv7 := wt_im hv e07.im
      have hw7 := wt_im hw e07.im
      have f67 := e7 _ _ f6
      walk_at "uz"
      refine s_tyL (.of f67) ?_
      rcases i with _ | _ | i
      · walk_at "uz"
        refine ⟨v, w, ts, ys, rfl, hv7, hw7, G, G2, fun z r hz e x H8 e8 sx he => ?_, fun h => by rw [hl] at h; cases h⟩
        rw [hl] at hz
        cases hz
        refine s_hit T.mSE fun a' ha' => ?_
        dsimp only [setO, endO]
        walk_at "us"
        refine s_szN (Nat.zero_le _) fun q8 n8 => s_nw n8 fun H9 e9 f9 => ?_
        have s59 := spots_im s57 (e8.im.tr e9.im)
        have f59 := e9 _ _ (e8 _ _ f57)
        refine eq_data (d := .list ((z0 :: zr).map spotD)) (e := .list []) (.lst (.of f59) (spots_dpa s59)) (.lst (.of f9) .nil) (spots_shl fun z m => (lok z m).ok) rfl ?_
        rw [show PyData.eqv (.list ((z0 :: zr).map spotD)) (.list []) = false from rfl]
        walk_at "us"
        refine s_ixL (.of f59) (atI_nat (j := 0) hx0) ?_
        walk_at "us"
        refine ⟨e, _, _, spotD z0, rfl, rfl, rfl, e9 _ _ he, spot_dp (spot_im sx e9.im), spot_dp (spot_im sx0 (e7.im.tr (e8.im.tr e9.im))), shw_spot B0, fun H10 e10 => ?_⟩
        walk_at "us"
        exact ⟨e7.tr (e8.tr (e9.tr e10)), _, rfl⟩
      · walk_at "uz"
        refine ⟨v, w, ts, ys, rfl, hv7, hw7, G, G2, fun z r hz e x H8 e8 sx he => ?_, fun h => by rw [hl] at h; cases h⟩
        rw [hl] at hz
        cases hz
        refine s_hit T.mSE fun a' ha' => ?_
        dsimp only [setO, endO]
        walk_at "us"
        refine s_szN (Nat.zero_le _) fun q8 n8 => s_nw n8 fun H9 e9 f9 => ?_
        have s59 := spots_im s57 (e8.im.tr e9.im)
        have f59 := e9 _ _ (e8 _ _ f57)
        refine eq_data (d := .list ((z0 :: zr).map spotD)) (e := .list []) (.lst (.of f59) (spots_dpa s59)) (.lst (.of f9) .nil) (spots_shl fun z m => (lok z m).ok) rfl ?_
        rw [show PyData.eqv (.list ((z0 :: zr).map spotD)) (.list []) = false from rfl]
        walk_at "us"
        refine s_ixL (.of f59) (atI_nat (j := 0) hx0) ?_
        walk_at "us"
        refine ⟨e, _, _, spotD z0, rfl, rfl, rfl, e9 _ _ he, spot_dp (spot_im sx e9.im), spot_dp (spot_im sx0 (e7.im.tr (e8.im.tr e9.im))), shw_spot B0, fun H10 e10 => ?_⟩
        walk_at "us"
        exact ⟨e7.tr (e8.tr (e9.tr e10)), _, rfl⟩
      · exact absurd hi (by show ¬ (i + 1 + 1 < 2); omega)
  | nil =>
    obtain ⟨al1, al2⟩ := lost_none hl
    rw [hl] at s56
    have z5 : zs5 = [] := List.eq_nil_of_length_eq_zero s56.len
    subst z5
    refine loopR (n := (2 : Int).toNat) (fun i σ' H' => (∀ a o, a ≠ q6 → H6 a = some o → H' a = some o) ∧ (∃ acc, H' q6 = some (.lst acc) ∧ acc.length = i ∧ (∀ u, acc[0]? = some u → WT K cW H' u (mixT 1 ts ys)) ∧ (∀ u, acc[1]? = some u → WT K cW H' u (mixT (-1) ts ys))) ∧ ∃ o10, σ' = [some v, some w, some (.ref p), some (.ref q), some (.ref D1), none, some (.ref D2), some (.ref D5), none, some (.ref q6), o10, none, none, none, none, none]) ⟨fun _ _ _ h => h, ⟨[], f6, rfl, (fun u h => by cases h), (fun u h => by cases h)⟩, none, rfl⟩ ?_ ?_
    · rintro σ' H7 ⟨m7, ⟨acc, f7, al, w1, w2⟩, o10, rfl⟩
      obtain ⟨u1, u2, rfl⟩ : ∃ a b, acc = [a, b] := by
        match acc, al with
        | [a, b], _ => exact ⟨a, b, rfl⟩
      replace w1 := w1 u1 rfl
      replace w2 := w2 u2 rfl
      have e07 : Ex H H7 := fun a o h => m7 a o (fun z => by rw [z, nq6] at h; cases h) (e06 _ _ h)
      have n56 : D5 ≠ q6 := fun z => by rw [z, f6] at f56; cases f56; rw [z] at f5; rw [f5] at n6; cases n6
      have f57 := m7 _ _ n56 f56
      walk_at "uz"
      refine s_lstE ?_
      walk_at "uz"
      refine s_szN (Nat.zero_le _) fun q8 n8 => s_nw n8 fun H8 e8 f8 => ?_
      refine ne_data (d := .list []) (e := .list []) (.lst (.of (e8 _ _ f57)) .nil) (.lst (.of f8) .nil) rfl rfl ?_
      rw [show PyData.eqv (.list []) (.list []) = true from rfl]
      walk_at "uz"
      refine fun d nd' => s_nw nd' fun H9 e9 f9 => ?_
      have e79 := e8.tr e9
      have e09 := e07.tr e79
      have ndH : H d = none := ex_none26 (e07.tr e8) nd'
      have f79 := e79 _ _ f7
      have hq9 := e09 _ _ hq
      have hp9 := e09 _ _ hp
      have nqd : q ≠ d := fun z => by rw [z, f9] at hq9; cases hq9
      have npd : p ≠ d := fun z => by rw [z, f9] at hp9; cases hp9
      have n6d : q6 ≠ d := fun z => by rw [z, f9] at f79; cases f79
      have wl := hty.len
      have y40 := G2.len
      have t40 := G.len
      walk_at "uz"
      refine loopL (xs := ws) (fun i σ' H' => (∀ a o, a ≠ d → H9 a = some o → H' a = some o) ∧ i ≤ ys.length ∧ ∃ vs, H' d = some (.dT (tabW ((ys.map fun t => t.1).take i) vs)) ∧ vs.length = i ∧ RatsX K H vs ((ys.map fun t => ratP t.2).take i) ∧ ∃ o5, σ' = [some v, some w, some (.ref p), some (.ref q), some (.ref D1), o5, some (.ref D2), some (.ref D5), none, some (.ref q6), o10, none, some (.ref d), none, none, none]) ⟨fun _ _ _ h => h, Nat.zero_le _, [], f9, rfl, ⟨rfl, fun i v r a => by cases a⟩, none, rfl⟩ (fun i σ' H' h => .of (h.1 _ _ nqd hq9)) ?_ ?_
      rotate_left
      · rintro i x σ' H10 hx ⟨m10, il, vs, f10, vl, rv, o5, rfl⟩
        have xl := (List.getElem?_eq_some_iff.mp hx).1
        obtain ⟨t, hti, tm, xq, a, bb, rfl, hxq0, ⟨sq, rfl, hsq0⟩, hb0⟩ := term_of hty hx
        have e010 : Ex H H10 := fun a o h => m10 a o (fun z => by rw [z, ndH] at h; cases h) (e09 _ _ h)
        have hxq := Ex.st hxq0 e010
        have hsq := e010 _ _ hsq0
        have hz : (ys.map fun t => t.1)[i]? = some t.1 := by rw [List.getElem?_map, hti]; rfl
        have hrr : (ys.map fun t => ratP t.2)[i]? = some (ratP t.2) := by rw [List.getElem?_map, hti]; rfl
        have tkl : ((ys.map fun t => t.1).take i).length = i := by rw [List.length_take, List.length_map]; omega
        have l2 : (tabW ((ys.map fun t => t.1).take i) vs).length < sizeLine := by
          rw [tabW_len (by omega), tkl]
          show _ < 16777216
          omega
        have hput := DPut.t (k := keyS t.1) (v := bb) f10 hsq l2
        rw [tabW_put (by omega) (not_before G2.nd hz), ← take_step hz] at hput
        have rv2 : RatsX K H (vs ++ [bb]) ((ys.map fun t => ratP t.2).take (i + 1)) := by
          rw [List.take_add_one, hrr]
          exact rv.app hb0
        walk_at "uz"
        refine ⟨d, _, rfl, hput, ?_⟩
        walk_at "uz"
        exact ⟨fun a o n z => by rw [upd_ne n]; exact m10 a o n z, by omega, _, upd_same, by rw [List.length_append, vl]; rfl, rv2, _, rfl⟩
      rintro σ' H10 ⟨m10, il, vs, f10, vl, rv, o5, rfl⟩
      rw [wl, List.take_of_length_le (by rw [List.length_map]; exact Nat.le_refl _)] at f10 rv
      have e010 : Ex H H10 := fun a o h => m10 a o (fun z => by rw [z, ndH] at h; cases h) (e09 _ _ h)
      have f710 := m10 _ _ n6d f79
      have e810 : Ex H8 H10 := fun a o h => m10 a o (fun z => by rw [z, nd'] at h; cases h) (e9 _ _ h)
      have w1' : WT K cW H10 u1 (mixT 1 ts ys) := wt_im w1 (e8.tr e810).im
      have w2' : WT K cW H10 u2 (mixT (-1) ts ys) := wt_im w2 (e8.tr e810).im
      clear m10 e79 e09 f79 hq9 hp9 nqd n6d
      walk_at "uz"
      refine s_lstE ?_
      walk_at "uz"
      refine s_szN (Nat.zero_le _) fun q13 n13 => s_nw n13 fun H11 e11 f11 => ?_
      walk_at "uz"
      refine s_lstE ?_
      walk_at "uz"
      refine s_szN (Nat.zero_le _) fun q14 n14 => s_nw n14 fun H12 e12 f12 => ?_
      have e1012 := e11.tr e12
      have e012 := e010.tr e1012
      have n13H := ex_none26 e010 n13
      have n14H := ex_none26 (e010.tr e11) n14
      have f1112 := e12 _ _ f11
      have n1314 : q13 ≠ q14 := fun z => by rw [z, n14] at f11; cases f11
      have nd13 : d ≠ q13 := fun z => by rw [z, n13] at f10; cases f10
      have nd14 : d ≠ q14 := fun z => by rw [z] at f10; rw [e11 _ _ f10] at n14; cases n14
      have n613 : q6 ≠ q13 := fun z => by rw [z, n13] at f710; cases f710
      have n614 : q6 ≠ q14 := fun z => by rw [z] at f710; rw [e11 _ _ f710] at n14; cases n14
      have npq13 : p ≠ q13 := fun z => by rw [z, n13H] at hp; cases hp
      have npq14 : p ≠ q14 := fun z => by rw [z, n14H] at hp; cases hp
      walk_at "uz"
      refine loopL (xs := us) (fun i σ' H' => (∀ a o, a ≠ q13 → a ≠ q14 → H12 a = some o → H' a = some o) ∧ Im H12 H' ∧ i ≤ ts.length ∧ ∃ hs ls o5 o15, H' q13 = some (.lst hs) ∧ H' q14 = some (.lst ls) ∧ TermsAt K H' hs ((mixT 1 ts ys).take i) ∧ TermsAt K H' ls ((mixT (-1) ts ys).take i) ∧ σ' = [some v, some w, some (.ref p), some (.ref q), some (.ref D1), o5, some (.ref D2), some (.ref D5), none, some (.ref q6), o10, none, some (.ref d), some (.ref q13), some (.ref q14), o15]) ⟨fun _ _ _ _ h => h, im_refl _, Nat.zero_le _, [], [], _, none, f1112, f12, ⟨rfl, fun _ _ _ h => by cases h⟩, ⟨rfl, fun _ _ _ h => by cases h⟩, rfl⟩ (fun i σ' H' h => .of (h.1 _ _ npq13 npq14 (e012 _ _ hp))) ?_ ?_
      rotate_left
      · rintro i x σ' H13 hx ⟨m13, i13, il, hs, ls, o5', o15, g13, g14, th, tl, rfl⟩
        have xl := (List.getElem?_eq_some_iff.mp hx).1
        obtain ⟨t, hti, tm, xq, a, bb, rfl, hxq0, ⟨sq, rfl, hsq0⟩, hb0⟩ := term_of ht hx
        have e013 : Ex H H13 := fun a o h => m13 a o (fun z => by rw [z, n13H] at h; cases h) (fun z => by rw [z, n14H] at h; cases h) (e012 _ _ h)
        have hxq := Ex.st hxq0 e013
        have hsq := e013 _ _ hsq0
        have hb := rq_ex hb0 e013
        have mz : t.1 ∈ ys.map fun t => t.1 := al1 t tm
        obtain ⟨j, hj⟩ := List.mem_iff_getElem?.mp mz
        have jl := (List.getElem?_eq_some_iff.mp hj).1
        have rl := rv.len
        rw [List.length_map] at rl jl
        obtain ⟨vb, hvb⟩ : ∃ vb, vs[j]? = some vb := ⟨_, List.getElem?_eq_getElem (by omega)⟩
        have tb := tabW_at G2.nd hj hvb
        obtain ⟨y, hy, yt⟩ : ∃ y, ys[j]? = some y ∧ y.1 = t.1 := by
          rw [List.getElem?_map] at hj
          cases q : ys[j]? with
          | none => rw [q] at hj; cases hj
          | some y => rw [q] at hj; exact ⟨y, rfl, Option.some.inj hj⟩
        have lk := lookT_at G2.nd (List.mem_of_getElem? hy)
        rw [yt] at lk
        have rb0 : RatX K H vb (ratP y.2) := rv.at_ j vb _ hvb (by rw [List.getElem?_map, hy]; rfl)
        have rb : RQ K H13 vb y.2 := rq_ex rb0 e013
        have gb : ∀ {H' : Hp}, (∀ a o, a ≠ q13 → a ≠ q14 → H13 a = some o → H' a = some o) → DGet H' d (.ref sq) (some vb) := fun {H'} m => by
          have := DGet.t (k := keyS t.1) (m _ _ nd13 nd14 (m13 _ _ nd13 nd14 (e1012 _ _ f10))) (m _ _ (fun z => by rw [z, n13H] at hsq0; cases hsq0) (fun z => by rw [z, n14H] at hsq0; cases hsq0) hsq)
          rwa [tb] at this
        have hl : hs.length ≤ 40 := by
          rw [th.len, List.length_take]
          unfold mixT
          rw [List.length_map]
          omega
        have ll : ls.length ≤ 40 := by
          rw [tl.len, List.length_take]
          unfold mixT
          rw [List.length_map]
          omega
        have mi : ∀ sg, (mixT sg ts ys)[i]? = some (t.1, mixR sg t.2 y.2) := fun sg => by
          unfold mixT
          rw [List.getElem?_map, hti]
          show some (t.1, mixR sg t.2 ((lookT ys t.1).getD 0)) = _
          rw [lk]
          rfl
        have fin : ∀ {sg : Int} {acc : List V} {u7 : V} {tq : Addr} {H14 H15 : Hp}, TermsAt K H13 acc ((mixT sg ts ys).take i) → RQ K H14 u7 (mixR sg t.2 y.2) → Im H13 H14 → H14 tq = some (.tup [.ref sq, u7]) → Im H14 H15 → TermsAt K H15 (acc ++ [.ref tq]) ((mixT sg ts ys).take (i + 1)) := fun {sg acc u7 tq H14 H15} ta ru ia fq ib => by
          rw [List.take_add_one, mi]
          exact terms_app (terms_im ta (ia.tr ib)) ⟨tq, .ref sq, u7, rfl, sqt_im (.of fq) ib, spot_im ⟨sq, rfl, (e013.im.tr ia) _ _ trivial hsq0⟩ ib, rq_im ru ib⟩
        walk_at "uz"
        refine ⟨d, vb, rfl, gb fun _ _ _ _ h => h, ?_⟩
        walk_at "uz"
        refine lessQ hb rb (big40 (G.sz t tm)) (big40 (G2.sz y (List.mem_of_getElem? hy))) ?_
        by_cases c : t.2 < y.2
        · have r1 : RQ K H13 vb (mixR 1 t.2 y.2) := by rw [mix_hi, if_pos c]; exact rb
          have r2 : RQ K H13 bb (mixR (-1) t.2 y.2) := by rw [mix_lo, if_pos c]; exact hb
          rw [decide_eq_true c]
          walk_at "uz"
          refine s_tyL (.of g13) ?_
          walk_at "uz"
          refine s_tupE ?_
          walk_at "uz"
          refine ⟨d, vb, rfl, gb fun _ _ _ _ h => h, ?_⟩
          walk_at "uz"
          refine s_szN (Nat.le_of_ble_eq_true rfl) fun ta na => s_nw na fun H14 e14 f14 => ?_
          refine ⟨q13, hs, _, rfl, rfl, e14 _ _ g13, by show _ < 16777216; omega, ?_⟩
          refine s_mw (e14 _ _ g13) fun H15 m15 i15 f15 => ?_
          have i1315 := e14.im.tr i15
          have g15 := m15 _ _ (Ne.symm n1314) (e14 _ _ g14)
          have hxq5 := sqt_im hxq i1315
          walk_at "uz"
          refine s_tyL (.of g15) ?_
          walk_at "uz"
          refine s_tupE ?_
          walk_at "uz"
          refine s_szN (Nat.le_of_ble_eq_true rfl) fun tc nc => s_nw nc fun H16 e16 f16 => ?_
          refine ⟨q14, ls, _, rfl, rfl, e16 _ _ g15, by show _ < 16777216; omega, ?_⟩
          refine s_mw (e16 _ _ g15) fun H17 m17 i17 f17 => ?_
          have i1317 := i1315.tr (e16.im.tr i17)
          exact ⟨fun a o n n' h => m17 a o n' (e16 _ _ (m15 a o n (e14 _ _ (m13 a o n n' h)))), i13.tr i1317, by omega, _, _, _, _, m17 _ _ n1314 (e16 _ _ f15), f17, fin th (rq_ex r1 e14) e14.im f14 (i15.tr (e16.im.tr i17)), fin tl (rq_ex (rq_im r2 i1315) e16) (i1315.tr e16.im) f16 i17, rfl⟩
        · have r1 : RQ K H13 bb (mixR 1 t.2 y.2) := by rw [mix_hi, if_neg c]; exact hb
          have r2 : RQ K H13 vb (mixR (-1) t.2 y.2) := by rw [mix_lo, if_neg c]; exact rb
          rw [decide_eq_false c]
          walk_at "uz"
          refine s_tyL (.of g13) ?_
          walk_at "uz"
          refine s_tupE ?_
          walk_at "uz"
          refine s_szN (Nat.le_of_ble_eq_true rfl) fun ta na => s_nw na fun H14 e14 f14 => ?_
          refine ⟨q13, hs, _, rfl, rfl, e14 _ _ g13, by show _ < 16777216; omega, ?_⟩
          refine s_mw (e14 _ _ g13) fun H15 m15 i15 f15 => ?_
          have i1315 := e14.im.tr i15
          have g15 := m15 _ _ (Ne.symm n1314) (e14 _ _ g14)
          have hxq5 := sqt_im hxq i1315
          walk_at "uz"
          refine s_tyL (.of g15) ?_
          walk_at "uz"
          refine s_tupE ?_
          walk_at "uz"
          refine ⟨d, vb, rfl, gb fun a o n _ h => m15 a o n (e14 _ _ h), ?_⟩
          walk_at "uz"
          refine s_szN (Nat.le_of_ble_eq_true rfl) fun tc nc => s_nw nc fun H16 e16 f16 => ?_
          refine ⟨q14, ls, _, rfl, rfl, e16 _ _ g15, by show _ < 16777216; omega, ?_⟩
          refine s_mw (e16 _ _ g15) fun H17 m17 i17 f17 => ?_
          have i1317 := i1315.tr (e16.im.tr i17)
          exact ⟨fun a o n n' h => m17 a o n' (e16 _ _ (m15 a o n (e14 _ _ (m13 a o n n' h)))), i13.tr i1317, by omega, _, _, _, _, m17 _ _ n1314 (e16 _ _ f15), f17, fin th (rq_ex r1 e14) e14.im f14 (i15.tr (e16.im.tr i17)), fin tl (rq_ex (rq_im r2 i1315) e16) (i1315.tr e16.im) f16 i17, rfl⟩
      rintro σ' H13 ⟨m13, i13, il, hs, ls, o5', o15, g13, g14, th, tl, rfl⟩
      have e013 : Ex H H13 := fun a o h => m13 a o (fun z => by rw [z, n13H] at h; cases h) (fun z => by rw [z, n14H] at h; cases h) (e012 _ _ h)
      rw [ul, List.take_of_length_le (by unfold mixT; rw [List.length_map]; exact Nat.le_refl _)] at th tl
      have f713 := m13 _ _ n613 n614 (e1012 _ _ f710)
      walk_at "uz"
      refine ⟨u1, q13, hs, _, rfl, wt_im w1' (e1012.im.tr i13), mix_good G G2 (.inl rfl), g13, th, fun H14 e14 => ?_⟩
      have f714 := e14 _ _ f713
      walk_at "uz"
      refine ⟨u2, q14, ls, _, rfl, wt_im w2' (e1012.im.tr (i13.tr e14.im)), mix_good G G2 (.inr rfl), e14 _ _ g14, terms_im tl e14.im, fun H15 e15 => ?_⟩
      exact k _ (e013.tr (e14.tr e15))
    · rintro i σ' H7 hi ⟨m7, ⟨acc, f7, al, w1, w2⟩, o10, rfl⟩
      have e07 : Ex H H7 := fun a o h => m7 a o (fun z => by rw [z, nq6] at h; cases h) (e06 _ _ h)
      have hv7 := wt_im hv e07.im
      have hw7 := wt_im hw e07.im
      have noE : ∀ E, MixE cS H7 E ts ys := fun E z r h => by rw [hl] at h; cases h
      walk_at "uz"
      refine s_tyL (.of f7) ?_
      rcases i with _ | _ | i
      · have a0 : acc = [] := List.eq_nil_of_length_eq_zero al
        subst a0
        walk_at "uz"
        refine ⟨v, w, ts, ys, rfl, hv7, hw7, G, G2, noE _, fun _ u H8 e8 wu => ?_⟩
        walk_at "uz"
        refine ⟨q6, _, _, rfl, rfl, e8 _ _ f7, Nat.le_of_ble_eq_true rfl, ?_⟩
        refine s_mw (e8 _ _ f7) fun H9 m9 i9 f9 => ?_
        exact ⟨fun a o n h => m9 a o n (e8 _ _ (m7 a o n h)), ⟨_, f9, rfl, (fun u' h => by cases h; exact wt_im wu i9), (fun u' h => by cases h)⟩, _, rfl⟩
      · obtain ⟨u1, rfl⟩ : ∃ a, acc = [a] := by
          match acc, al with
          | [a], _ => exact ⟨a, rfl⟩
        walk_at "uz"
        refine ⟨v, w, ts, ys, rfl, hv7, hw7, G, G2, noE _, fun _ u H8 e8 wu => ?_⟩
        walk_at "uz"
        refine ⟨q6, _, _, rfl, rfl, e8 _ _ f7, Nat.le_of_ble_eq_true rfl, ?_⟩
        refine s_mw (e8 _ _ f7) fun H9 m9 i9 f9 => ?_
        exact ⟨fun a o n h => m9 a o n (e8 _ _ (m7 a o n h)), ⟨_, f9, rfl, (fun u' h => by cases h; exact wt_im (w1 _ rfl) (e8.im.tr i9)), (fun u' h => by cases h; exact wt_im wu i9)⟩, _, rfl⟩
      · exact absurd hi (by show ¬ (i + 1 + 1 < 2); omega)
end

def odS1 (s : Str) (i j : Int) : List PyData := [.list [.str s, .int i, .int j], .tuple [.str s, .int i], .tuple [.str s, .int i, .int j, .int 0], .tuple [.int 1, .int i, .int j], .tuple [.str s, .bool true, .int j], .str s]
def odS2 (s : Str) (i : Int) : List PyData := [.tuple [.str s, .int i, .none], .tuple [.str s, .bool false, .int 0], .tuple [.none, .int 0, .int 0], .tuple [.str s, .int i, .tuple [.int 2, .int 1]], .none]
def odR1 (n d : Int) : List PyData := [.tuple [.int n, .int 0], .tuple [.int (2 * n), .int (2 * d)], .tuple [.int (0 - n), .int (0 - d)], .int n, .list [.int n, .int d]]
def odR2 (n d : Int) (t : Str) : List PyData := [.tuple [.int n], .tuple [.int n, .int d, .int 1], .tuple [.bool true, .int 1], .tuple [.int n, .bool true], .none, .str "0", .tuple [.str t, .int 1]]
def odP (z r : PyData) : List PyData := [.tuple [z], .tuple [z, r, r], .list [z, r], .tuple [r, z], z, .none, .int 7, .tuple []]
theorem sh_of {d : PyData} (a : d.canLay0 = true) (b : d.depth ≤ 4) : SeqAt.shaped d = true := by rw [SeqAt.shaped, a, Bool.true_and, decide_eq_true_eq]; exact Nat.le_trans b (Nat.le_of_ble_eq_true rfl)
theorem odS_ok {s : Str} {i j : Int} (h : PyData.strOk s = true) (q : Rat) : ∀ d ∈ odS1 s i j ++ odS2 s i, isPairD (.tuple [d, ratD q]) = false ∧ SeqAt.shaped (.tuple [d, ratD q]) = true := by
  intro d hd
  simp only [odS1, odS2, List.cons_append, List.nil_append, List.mem_cons, List.not_mem_nil, or_false] at hd
  have l1 : ∀ {x : PyData}, isSpotD x = false → isPairD (.tuple [x, ratD q]) = false := fun {x} e => by
    show (isSpotD x && isRatD (ratD q)) = false
    rw [e, Bool.false_and]
  rcases hd with rfl | rfl | rfl | rfl | rfl | rfl | rfl | rfl | rfl | rfl | rfl
  all_goals refine ⟨l1 rfl, sh_of ?_ (Nat.le_of_ble_eq_true rfl)⟩
  all_goals simp only [ratD, PyData.canLay0, PyData.canLayAll0, h, Bool.and_true, Bool.true_and]
theorem odR_ok {n : Int} {d : Nat} {t : Str} (h : PyData.strOk t = true) (d0 : 0 < d) (z : Spot) (hz : SpOk z) : ∀ x ∈ odR1 n (d : Int) ++ odR2 n (d : Int) t, isPairD (.tuple [spotD z, x]) = false ∧ SeqAt.shaped (.tuple [spotD z, x]) = true := by
  intro x hd
  simp only [odR1, odR2, List.cons_append, List.nil_append, List.mem_cons, List.not_mem_nil, or_false] at hd
  have l1 : ∀ {x : PyData}, isRatD x = false → isPairD (.tuple [spotD z, x]) = false := fun {x} e => by
    show (isSpotD (spotD z) && isRatD x) = false
    rw [e, Bool.and_false]
  have h2 : PyData.strOk "0" = true := by decide +kernel
  have hz' : PyData.strOk z.1 = true := hz
  have c2 : isRatD (.tuple [.int (2 * n), .int (2 * (d : Int))]) = false := by
    show (decide (1 ≤ 2 * (d : Int)) && decide (Int.gcd (2 * n) (2 * (d : Int)) = 1)) = false
    rw [Int.gcd_mul_left, Bool.and_eq_false_iff]
    right
    refine decide_eq_false ?_
    show ¬ (2 * _ = 1)
    omega
  have c3 : isRatD (.tuple [.int (0 - n), .int (0 - (d : Int))]) = false := by
    show (decide (1 ≤ 0 - (d : Int)) && _) = false
    rw [decide_eq_false (by omega), Bool.false_and]
  rcases hd with rfl | rfl | rfl | rfl | rfl | rfl | rfl | rfl | rfl | rfl | rfl | rfl
  · exact ⟨l1 rfl, sh_of (by simp only [spotD, PyData.canLay0, PyData.canLayAll0, hz', Bool.and_true, Bool.true_and]) (Nat.le_of_ble_eq_true rfl)⟩
  · exact ⟨l1 c2, sh_of (by simp only [spotD, PyData.canLay0, PyData.canLayAll0, hz', Bool.and_true, Bool.true_and]) (Nat.le_of_ble_eq_true rfl)⟩
  · exact ⟨l1 c3, sh_of (by simp only [spotD, PyData.canLay0, PyData.canLayAll0, hz', Bool.and_true, Bool.true_and]) (Nat.le_of_ble_eq_true rfl)⟩
  all_goals refine ⟨l1 rfl, sh_of ?_ (Nat.le_of_ble_eq_true rfl)⟩
  all_goals simp only [spotD, PyData.canLay0, PyData.canLayAll0, hz', h, h2, Bool.and_true, Bool.true_and]
theorem odP_ok {z : Spot} (h : SpOk z) (q : Rat) : ∀ d ∈ odP (spotD z) (ratD q), isPairD d = false ∧ SeqAt.shaped d = true := by
  intro d hd
  have hz' : PyData.strOk z.1 = true := h
  simp only [odP, List.mem_cons, List.not_mem_nil, or_false] at hd
  rcases hd with rfl | rfl | rfl | rfl | rfl | rfl | rfl | rfl
  all_goals refine ⟨rfl, sh_of ?_ (Nat.le_of_ble_eq_true rfl)⟩
  all_goals simp only [spotD, ratD, PyData.canLay0, PyData.canLayAll0, hz', Bool.and_true, Bool.true_and]
theorem strOk_num (i : Int) : PyData.strOk (PySem.Str.ofString (toString i)) = true := by
  unfold PyData.strOk
  rw [Array.all_eq_true]
  intro j hj
  have := PySem.W.KSb.asc_num i _ (Array.getElem_mem_toList hj)
  rw [decide_eq_true_eq]
  exact Nat.lt_of_lt_of_le this (Nat.le_of_ble_eq_true rfl)
theorem mem_at {α β : Type} {vs : List α} {ds : List β} {w : α} (l : vs.length = ds.length) (hw : w ∈ vs) : ∃ (m : Nat) (d : β), vs[m]? = some w ∧ ds[m]? = some d ∧ d ∈ ds := by
  obtain ⟨m, hm⟩ := List.mem_iff_getElem?.mp hw
  obtain ⟨d, hd⟩ : ∃ d, ds[m]? = some d := ⟨_, List.getElem?_eq_getElem (by rw [← l]; exact (List.getElem?_eq_some_iff.mp hm).1)⟩
  exact ⟨m, d, hm, hd, List.mem_of_getElem? hd⟩
section
variable (σ : L2.St) (H0 : Hp)
/-- things that stand by what never changes -/
def AME (te : TE) (P : Hp → V → Prop) : Prop := ∀ (H : Hp) (Q : VK), Ex H0 H → (∀ v H', Ex H H' → (∀ H2, Im H' H2 → P H2 v) → Q v H') → te σ H Q
def AMA (ts : TA) (P : Hp → V → Prop) (n : Nat) : Prop := ∀ (H : Hp) (Q : List V → Hp → Prop), Ex H0 H → (∀ vs H', Ex H H' → (∀ H2, Im H' H2 → ∀ v ∈ vs, P H2 v) → vs.length = n → Q vs H') → ts σ H Q
end
section
variable {σ : L2.St} {H0 : Hp} {P : Hp → V → Prop}
theorem am_nil : AMA σ H0 tNil P 0 := fun H Q _ h => h _ _ (exR H) (fun _ _ v m => by cases m) rfl
theorem am_cons {te : TE} {ts : TA} {n : Nat} (h1 : AME σ H0 te P) (h2 : AMA σ H0 ts P n) : AMA σ H0 (tCons te ts) P (n + 1) := fun H Q e h =>
  h1 H _ e fun v H1 e1 r1 => h2 H1 _ (e.tr e1) fun vs H2 e2 r2 l => h _ _ (e1.tr e2) (fun H3 m w hw => by
    rcases List.mem_cons.mp hw with rfl | hw
    · exact r1 H3 (e2.im.tr m)
    · exact r2 H3 m w hw) (by rw [List.length_cons, l])
theorem s_aml {ts : TA} {n : Nat} {Q : VK} (h : AMA σ H0 ts P n) (l : n ≤ 400) (k : ∀ p vs H', Ex H0 H' → H' p = some (.lst vs) → vs.length = n → (∀ H2, Im H' H2 → ∀ v ∈ vs, P H2 v) → Q (.ref p) H') : tLst ts σ H0 Q := h H0 _ (exR H0) fun vs H1 e1 r lv => ⟨by rw [lv]; exact Nat.le_trans l (Nat.le_of_ble_eq_true rfl), fun p n => k p vs _ (e1.tr (exN n)) upd_same lv fun H2 m => r H2 ((exN n).im.tr m)⟩
end
/-- a pair with a spot and a ratio that cannot stand first -/
def FirP (K : PySem.W.Frag) (H : Hp) (x : V) : Prop := ∃ q a b z r, x = .ref q ∧ SqT K H q [a, b] ∧ SpotX H a z ∧ SpOk z ∧ RQ K H b r ∧ (z, r) ≠ (gr, 0)
theorem grs_ok : PyData.strOk "grounds" = true ∧ PyData.strOk "ground" = true := by decide +kernel
theorem grs_ne : ((("grounds", 0, 0) : Spot) ≠ gr) ∧ ((("ground", 0, 1) : Spot) ≠ gr) := by decide +kernel
def m13 : Rat := ⟨-1, 3, by decide, by decide⟩
theorem m13_ne : m13 ≠ 0 := fun h => by
  have := congrArg Rat.num h
  cases this
section
variable {P : Program} {w : World} {K : PySem.W.Frag} {mg : Str → Option Value} {base : Heap}
variable {cE cS cX cN cP cW cG cZ : Addr}
theorem ok_l_wrong_pair (T : Tp P K mg cE cS cX cN cP cW cG cZ)
    (c_l_choice : Cal P w K mg base 2 "_law_choice" P_l_choice [] (spChoice K))
    (c_l_pick : Cal P w K mg base 1 "_law_pick" P_l_pick [] (spPick))
    {f : Addr} {fd : FuncData} {dvs : List V} (F : FunD K "_law_wrong_pair" "_law_wrong_pair" (defArgs s_l_wrong_pair) (defBody s_l_wrong_pair) (defScope s_l_wrong_pair) dvs [] f fd) : FnG P w K mg base 3 f fd P_l_wrong_pair (spWrongPair K) := by
  refine fng F sc_l_wrong_pair (by walk_at "ulen") (fun cdv A outer s H vs Q E hr0 hg0 h => ?_)
  have hr : Rm 2 (A.deeper (envOfC "_law_wrong_pair" (defScope s_l_wrong_pair) s.heap.objs.size f cdv)) := ⟨hr0, hg0⟩
  have nd : N_l_wrong_pair.Nodup := sc_l_wrong_pair.nd
  obtain ⟨b, p, us, ts, n, rfl, hb, hp, ht, G, sz, tl, nl, k⟩ := h
  have ul := ht.len
  obtain ⟨t, htn⟩ : ∃ t, ts[n]? = some t := ⟨_, List.getElem?_eq_getElem nl⟩
  obtain ⟨x, hxn⟩ : ∃ x, us[n]? = some x := ⟨_, List.getElem?_eq_getElem (by omega)⟩
  obtain ⟨xq, sa, fa, rfl, hxq, hsa, hfa⟩ := ht.at_ n x t hxn htn
  have tok := G.ok t (List.mem_of_getElem? htn)
  have tsz := sz t (List.mem_of_getElem? htn)
  obtain ⟨z, q⟩ := t
  obtain ⟨zq, rfl, hzq⟩ := id hsa
  obtain ⟨vq, rfl, hvq⟩ := id hfa
  have hok : SpOk z := tok.ok
  obtain ⟨s, i, j⟩ := z
  refine ⟨_, (pss_cons (ps_set (i := 3) nd rfl (Or.inl rfl) (pe_ix ix_seq (pe_ix ix_seq (pv 1) (pv 2) (fun _ _ => rfl)) pe_int (fun _ _ => rfl)))
    (pss_cons (ps_set (i := 4) nd rfl (Or.inl rfl) (pe_ix ix_seq (pe_ix ix_seq (pv 1) (pv 2) (fun _ _ => rfl)) pe_int (fun _ _ => rfl)))
    (pss_cons (ps_set (i := 5) nd rfl (Or.inl rfl) (pe_c (E := En) c_l_pick (hr.mono (by decide)) paN (pa_cons (pv 0) (pa_cons pe_int pa_nil))))
    (pss_cons (ps_if (pt_cmpR (op_uEq hr.r.units) (pv 5) pe_int (nomark _)) (pss_cons (ps_set (i := 6) nd rfl (Or.inl rfl) (pe_lst (pa_cons (pe_callTy call_uList (by rfl) T.list b_list (pa_cons (pv 3) pa_nil)) (pa_cons (pe_slice sl_u (pv 3) po_none (po_some pe_int)) (pa_cons (pe_op op_uAdd (pv 3) (pe_tup (pa_cons pe_int pa_nil))) (pa_cons (pe_tup (pa_cons pe_int (pa_cons (pe_ix ix_seq (pv 3) pe_int (fun _ _ => rfl)) (pa_cons (pe_ix ix_seq (pv 3) pe_int (fun _ _ => rfl)) pa_nil)))) (pa_cons (pe_tup (pa_cons (pe_ix ix_seq (pv 3) pe_int (fun _ _ => rfl)) (pa_cons pe_bl (pa_cons (pe_ix ix_seq (pv 3) pe_int (fun _ _ => rfl)) pa_nil)))) (pa_cons (pe_ix ix_seq (pv 3) pe_int (fun _ _ => rfl)) pa_nil))))))))
    (pss_cons (ps_set (i := 6) nd rfl (Or.inl rfl) (pe_op op_uAdd (pv 6) (pe_lst (pa_cons (pe_tup (pa_cons (pe_ix ix_seq (pv 3) pe_int (fun _ _ => rfl)) (pa_cons (pe_ix ix_seq (pv 3) pe_int (fun _ _ => rfl)) (pa_cons pe_non pa_nil)))) (pa_cons (pe_tup (pa_cons (pe_ix ix_seq (pv 3) pe_int (fun _ _ => rfl)) (pa_cons pe_bl (pa_cons pe_int pa_nil)))) (pa_cons (pe_tup (pa_cons pe_non (pa_cons pe_int (pa_cons pe_int pa_nil)))) (pa_cons (pe_tup (pa_cons (pe_ix ix_seq (pv 3) pe_int (fun _ _ => rfl)) (pa_cons (pe_ix ix_seq (pv 3) pe_int (fun _ _ => rfl)) (pa_cons (pe_tup (pa_cons pe_int (pa_cons pe_int pa_nil))) pa_nil)))) (pa_cons pe_non pa_nil))))))))
    (pss_one (ps_ret (pe_tup (pa_cons (pe_c (E := En) c_l_choice (hr.mono (by decide)) paN (pa_cons (pv 0) (pa_cons (pv 6) pa_nil))) (pa_cons (pv 4) pa_nil))))))) pss_nil)
    (pss_cons (ps_if (pt_cmpR (op_uEq hr.r.units) (pv 5) pe_int (nomark _)) (pss_cons (ps_set (i := 6) nd rfl (Or.inl rfl) (pe_lst (pa_cons (pe_tup (pa_cons (pe_ix ix_seq (pv 4) pe_int (fun _ _ => rfl)) (pa_cons pe_int pa_nil))) (pa_cons (pe_tup (pa_cons (pe_op op_uMul pe_int (pe_ix ix_seq (pv 4) pe_int (fun _ _ => rfl))) (pa_cons (pe_op op_uMul pe_int (pe_ix ix_seq (pv 4) pe_int (fun _ _ => rfl))) pa_nil))) (pa_cons (pe_tup (pa_cons (pe_op op_sub pe_int (pe_ix ix_seq (pv 4) pe_int (fun _ _ => rfl))) (pa_cons (pe_op op_sub pe_int (pe_ix ix_seq (pv 4) pe_int (fun _ _ => rfl))) pa_nil))) (pa_cons (pe_ix ix_seq (pv 4) pe_int (fun _ _ => rfl)) (pa_cons (pe_callTy call_uList (by rfl) T.list b_list (pa_cons (pv 4) pa_nil)) pa_nil)))))))
    (pss_cons (ps_set (i := 6) nd rfl (Or.inl rfl) (pe_op op_uAdd (pv 6) (pe_lst (pa_cons (pe_tup (pa_cons (pe_ix ix_seq (pv 4) pe_int (fun _ _ => rfl)) pa_nil)) (pa_cons (pe_op op_uAdd (pv 4) (pe_tup (pa_cons pe_int pa_nil))) (pa_cons (pe_tup (pa_cons pe_bl (pa_cons pe_int pa_nil))) (pa_cons (pe_tup (pa_cons (pe_ix ix_seq (pv 4) pe_int (fun _ _ => rfl)) (pa_cons pe_bl pa_nil))) (pa_cons pe_non (pa_cons pe_str (pa_cons (pe_tup (pa_cons (pe_callTy call_uStr (by rfl) T.str b_str (pa_cons (pe_op op_uDiv (pe_ix ix_seq (pv 4) pe_int (fun _ _ => rfl)) pe_int) pa_nil)) (pa_cons pe_int pa_nil))) pa_nil))))))))))
    (pss_one (ps_ret (pe_tup (pa_cons (pv 3) (pa_cons (pe_c (E := En) c_l_choice (hr.mono (by decide)) paN (pa_cons (pv 0) (pa_cons (pv 6) pa_nil))) pa_nil))))))) pss_nil)
    (pss_cons (ps_if (pt_cmpR (op_uEq hr.r.units) (pv 5) pe_int (nomark _)) (pss_one (ps_ret (pe_c (E := En) c_l_choice (hr.mono (by decide)) paN (pa_cons (pv 0) (pa_cons (pe_lst (pa_cons (pe_tup (pa_cons (pv 3) pa_nil)) (pa_cons (pe_tup (pa_cons (pv 3) (pa_cons (pv 4) (pa_cons (pv 4) pa_nil)))) (pa_cons (pe_lst (pa_cons (pv 3) (pa_cons (pv 4) pa_nil))) (pa_cons (pe_tup (pa_cons (pv 4) (pa_cons (pv 3) pa_nil))) (pa_cons (pv 3) (pa_cons pe_non (pa_cons pe_int (pa_cons (pe_tup pa_nil) pa_nil))))))))) pa_nil))))) pss_nil)
    (pss_cons (ps_if (pt_cmpR (op_uEq hr.r.units) (pv 2) pe_int (nomark _)) (pss_one (ps_ret (pe_c (E := En) c_l_choice (hr.mono (by decide)) paN (pa_cons (pv 0) (pa_cons (pe_lst (pa_cons (pe_tup (pa_cons (pe_tup (pa_cons pe_str (pa_cons pe_int (pa_cons pe_int pa_nil)))) (pa_cons (pv 4) pa_nil))) (pa_cons (pe_tup (pa_cons (pe_tup (pa_cons pe_str (pa_cons pe_int (pa_cons pe_int pa_nil)))) (pa_cons (pv 4) pa_nil))) (pa_cons (pe_tup (pa_cons (pv 3) (pa_cons (pe_tup (pa_cons pe_int (pa_cons pe_int pa_nil))) pa_nil))) (pa_cons (pe_tup (pa_cons (pv 3) (pa_cons (pe_tup (pa_cons (pe_un un_neg pe_int) (pa_cons pe_int pa_nil))) pa_nil))) pa_nil))))) pa_nil))))) pss_nil)
    (pss_one (ps_ret (pe_tup (pa_cons (pe_ix ix_seq (pe_ix ix_seq (pv 1) (pe_c (E := En) c_l_pick (hr.mono (by decide)) paN (pa_cons (pv 0) (pa_cons (pv 2) pa_nil))) (fun _ _ => rfl)) pe_int (fun _ _ => rfl)) (pa_cons (pe_c (E := En) c_l_choice (hr.mono (by decide)) paN (pa_cons (pv 0) (pa_cons (pe_lst (pa_cons (pv 4) (pa_cons (pe_tup (pa_cons pe_int (pa_cons pe_int pa_nil))) pa_nil))) pa_nil))) pa_nil)))))))))))), ?_⟩
  walk_at "uk"
  walk_at "uz"
  refine s_ixL (.of hp) (atI_nat hxn) ?_
  walk_at "uz"
  refine s_ixL (.of hp) (atI_nat hxn) ?_
  walk_at "uz"
  refine ⟨b, 5, rfl, hb, by decide, by decide, fun r H1 r0 r1 k1 => ?_⟩
  have hzq1 : SqT K H1 zq (vS (s, i, j)) := sqt_im (.of hzq) k1.im
  have hz1 := spot_im hsa k1.im
  have hvq1 := sqt_im hvq k1.im
  have hf1 := rq_kb hfa k1
  have zd : ∀ H2, Im H1 H2 → Dp K H2 (.ref zq) (spotD (s, i, j)) := fun H2 m => spot_dp (spot_im hz1 m)
  have vd : ∀ H2, Im H1 H2 → Dp K H2 (.ref vq) (ratD q) := fun H2 m => rq_dp (rq_im hf1 m)
  have ixz : ∀ {H : Hp}, Ex H1 H → SqT K H zq (vS (s, i, j)) := fun e => Ex.st hzq1 e
  have ixv : ∀ {H : Hp}, Ex H1 H → SqT K H vq [.int q.num, .int (q.den : Int)] := fun e => Ex.st hvq1 e
  have qd0 : 0 < q.den := q.den_pos
  have n30 : q.num.natAbs ≤ 10 ^ 30 := tsz.n
  have d30 := tsz.d
  walk_at "uz"
  refine s_ite (fun c => ?_) (fun c => ?_)
  · walk_at "uz"
    refine s_dml (K := K) (ds := odS1 s i j) (dm_cons (fun H Q e h => by
        walk_at "uz"
        refine s_listT (ixz e) fun l n => ?_
        exact h _ _ (exN n) fun S hS => rdp_l upd_same (mut_fresh (mut_ex hS e) n) (rdpa_cons rdp_s (rdpa_cons rdp_i (rdpa_cons rdp_i rdpa_nil)))) (dm_cons (dm_d fun H Q e h => by
        walk_at "uz"
        refine s_slT (ixz e) fun q1 H2 e2 f2 => ?_
        rw [show (2 : Int) = ((2 : Nat) : Int) from rfl, cutV_to _ _ (by show 2 ≤ 3; decide)] at f2
        have f2' : SqT K H2 q1 [.str s, .int i] := f2
        exact h _ _ e2 fun H3 m => .tup (sqt_im f2' m) (.cons (.str _) (.cons (.int _) .nil))) (dm_cons (dm_d fun H Q e h => by
        walk_at "uz"
        refine s_tupE ?_
        walk_at "uz"
        refine s_szN (Nat.le_of_ble_eq_true rfl) fun t1 n1 => s_nw n1 fun H2 e2 f2 => ?_
        refine s_catT (ixz (e.tr e2)) (.of f2) (Nat.le_of_ble_eq_true rfl) fun q1 H3 e3 f3 => ?_
        have f3' : SqT K H3 q1 [.str s, .int i, .int j, .int 0] := f3
        exact h _ _ (e2.tr e3) fun H3 m => .tup (sqt_im f3' m) (.cons (.str _) (.cons (.int _) (.cons (.int _) (.cons (.int _) .nil))))) (dm_cons (dm_tup (dm_cons dm_int (dm_cons (dm_ix (j := 1) rfl hzq1 rfl rdp_i) (dm_cons (dm_ix (j := 2) rfl hzq1 rfl rdp_i) dm_nil))) (Nat.le_of_ble_eq_true rfl)) (dm_cons (dm_tup (dm_cons (dm_ix (j := 0) rfl hzq1 rfl rdp_s) (dm_cons dm_bl (dm_cons (dm_ix (j := 2) rfl hzq1 rfl rdp_i) dm_nil))) (Nat.le_of_ble_eq_true rfl)) (dm_cons (dm_ix (j := 0) rfl hzq1 rfl rdp_s) dm_nil)))))) (Nat.le_of_ble_eq_true rfl) fun q1 vs1 H2 n2 e2 h2 vl1 r2 => ?_
    walk_at "uz"
    have hzq2 := ixz e2
    refine s_dml (K := K) (ds := odS2 s i) (dm_cons (dm_tup (dm_cons (dm_ix (j := 0) rfl hzq2 rfl rdp_s) (dm_cons (dm_ix (j := 1) rfl hzq2 rfl rdp_i) (dm_cons dm_non dm_nil))) (Nat.le_of_ble_eq_true rfl)) (dm_cons (dm_tup (dm_cons (dm_ix (j := 0) rfl hzq2 rfl rdp_s) (dm_cons dm_bl (dm_cons dm_int dm_nil))) (Nat.le_of_ble_eq_true rfl)) (dm_cons (dm_tup (dm_cons dm_non (dm_cons dm_int (dm_cons dm_int dm_nil))) (Nat.le_of_ble_eq_true rfl)) (dm_cons (dm_tup (dm_cons (dm_ix (j := 0) rfl hzq2 rfl rdp_s) (dm_cons (dm_ix (j := 1) rfl hzq2 rfl rdp_i) (dm_cons (dm_tup (dm_cons dm_int (dm_cons dm_int dm_nil)) (Nat.le_of_ble_eq_true rfl)) dm_nil))) (Nat.le_of_ble_eq_true rfl)) (dm_cons dm_non dm_nil))))) (Nat.le_of_ble_eq_true rfl) fun q3 vs3 H3 n3 e3 h3 vl3 r3 => ?_
    have sl : (vs1 ++ vs3).length = (odS1 s i j ++ odS2 s i).length := by rw [List.length_append, List.length_append, vl1, vl3]
    refine s_catL (K := K) (e3 _ _ h2) h3 (by rw [vl1, vl3]; exact Nat.le_of_ble_eq_true rfl) fun q4 H4 n4 e4 f4 => ?_
    have e14 := e2.tr (e3.tr e4)
    walk_at "uz"
    refine s_tupE ?_
    walk_at "uz"
    refine ⟨b, k1.b1.ex e14, .inl ⟨q4, _, rfl, .of f4, by rw [sl]; exact Nat.le_of_ble_eq_true rfl, by rw [sl]; exact Nat.le_of_ble_eq_true rfl, fun w H5 hw k5 => ?_⟩⟩
    obtain ⟨m, d, m1, m2, m3⟩ := mem_at sl hw
    obtain ⟨g1, g2⟩ := odS_ok (i := i) (j := j) hok q d m3
    walk_at "uz"
    refine s_szN (Nat.le_of_ble_eq_true rfl) fun t6 n6 => s_nw n6 fun H6 e6 f6 => ?_
    have k06 := kb_e ((kb_e k1 e14).tr k5) e6
    walk_at "uz"
    refine k _ _ k06 fun S hS bS => .inl ⟨_, ?_, g2, g1⟩
    have hS1 := mut_kb hS k1
    have rr : RDpA S K H4 (vs1 ++ vs3) (odS1 s i j ++ odS2 s i) := rdpa_app ((r2 S hS1).mv fun a o _ h => (e3.tr e4) a o h) ((r3 S (mut_ex hS1 e2)).mv fun a o _ h => e4 a o h)
    have hS6 := mut_kb hS k06
    refine rdp_t f6 (mut_fresh (mut_kb (mut_ex hS1 e14) k5) n6) (rdpa_cons (((rdpa_get rr m1 m2).mv (kb_off k5 bS)).mv fun a o _ h => e6 a o h) (rdpa_cons (rdp_im hS6 fun H2 m => vd H2 ((e14.im.tr (k5.im.tr e6.im)).tr m)) rdpa_nil))
  walk_at "uz"
  refine s_ite (fun c1 => ?_) (fun c1 => ?_)
  · walk_at "uz"
    refine s_dml (K := K) (ds := odR1 q.num (q.den : Int)) (dm_cons (dm_tup (dm_cons (dm_ix (j := 0) rfl hvq1 rfl rdp_i) (dm_cons dm_int dm_nil)) (Nat.le_of_ble_eq_true rfl)) (dm_cons (dm_tup (dm_cons (dm_i fun H Q e h => by
        have hv := ixv e
        walk_at "uz"
        exact h) (dm_cons (dm_i fun H Q e h => by
        have hv := ixv e
        walk_at "uz"
        exact h) dm_nil)) (Nat.le_of_ble_eq_true rfl)) (dm_cons (dm_tup (dm_cons (dm_i fun H Q e h => by
        have hv := ixv e
        walk_at "uz"
        exact h) (dm_cons (dm_i fun H Q e h => by
        have hv := ixv e
        walk_at "uz"
        exact h) dm_nil)) (Nat.le_of_ble_eq_true rfl)) (dm_cons (dm_ix (j := 0) rfl hvq1 rfl rdp_i) (dm_cons (fun H Q e h => by
        walk_at "uz"
        refine s_listT (ixv e) fun l n => ?_
        exact h _ _ (exN n) fun S hS => rdp_l upd_same (mut_fresh (mut_ex hS e) n) (rdpa_cons rdp_i (rdpa_cons rdp_i rdpa_nil))) dm_nil))))) (Nat.le_of_ble_eq_true rfl) fun q1 vs1 H2 n2 e2 h2 vl1 r2 => ?_
    walk_at "uz"
    have hvq2 := ixv e2
    refine s_dml (K := K) (ds := odR2 q.num (q.den : Int) (PySem.Str.ofString (toString (q.num / 7)))) (dm_cons (dm_tup (dm_cons (dm_ix (j := 0) rfl hvq2 rfl rdp_i) dm_nil) (Nat.le_of_ble_eq_true rfl)) (dm_cons (dm_d fun H Q e h => by
        walk_at "uz"
        refine s_tupE ?_
        walk_at "uz"
        refine s_szN (Nat.le_of_ble_eq_true rfl) fun t1 n1 => s_nw n1 fun H2 e2' f2 => ?_
        refine s_catT (Ex.st hvq2 (e.tr e2')) (.of f2) (Nat.le_of_ble_eq_true rfl) fun q1 H3 e3 f3 => ?_
        have f3' : SqT K H3 q1 [.int q.num, .int (q.den : Int), .int 1] := f3
        exact h _ _ (e2'.tr e3) fun H3 m => .tup (sqt_im f3' m) (.cons (.int _) (.cons (.int _) (.cons (.int _) .nil)))) (dm_cons (dm_tup (dm_cons dm_bl (dm_cons dm_int dm_nil)) (Nat.le_of_ble_eq_true rfl)) (dm_cons (dm_tup (dm_cons (dm_ix (j := 0) rfl hvq2 rfl rdp_i) (dm_cons dm_bl dm_nil)) (Nat.le_of_ble_eq_true rfl)) (dm_cons dm_non (dm_cons dm_str (dm_cons (dm_tup (dm_cons (dm_s fun H Q e h => by
        have hv := Ex.st hvq2 e
        walk_at "uz"
        refine s_strI (log_le (Nat.lt_of_le_of_lt (Nat.le_trans (Int.natAbs_ediv_le_natAbs _ _) n30) (by decide)) (by decide)) ?_
        exact h) (dm_cons dm_int dm_nil)) (Nat.le_of_ble_eq_true rfl)) dm_nil))))))) (Nat.le_of_ble_eq_true rfl) fun q3 vs3 H3 n3 e3 h3 vl3 r3 => ?_
    have sl : (vs1 ++ vs3).length = (odR1 q.num (q.den : Int) ++ odR2 q.num (q.den : Int) (PySem.Str.ofString (toString (q.num / 7)))).length := by rw [List.length_append, List.length_append, vl1, vl3]
    refine s_catL (K := K) (e3 _ _ h2) h3 (by rw [vl1, vl3]; exact Nat.le_of_ble_eq_true rfl) fun q4 H4 n4 e4 f4 => ?_
    have e14 := e2.tr (e3.tr e4)
    walk_at "uz"
    refine s_tupE ?_
    walk_at "uz"
    refine ⟨b, k1.b1.ex e14, .inl ⟨q4, _, rfl, .of f4, by rw [sl]; exact Nat.le_of_ble_eq_true rfl, by rw [sl]; exact Nat.le_of_ble_eq_true rfl, fun w H5 hw k5 => ?_⟩⟩
    obtain ⟨m, d, m1, m2, m3⟩ := mem_at sl hw
    obtain ⟨g1, g2⟩ := odR_ok (strOk_num (q.num / 7)) qd0 (s, i, j) hok d m3
    walk_at "uz"
    refine s_szN (Nat.le_of_ble_eq_true rfl) fun t6 n6 => s_nw n6 fun H6 e6 f6 => ?_
    have k06 := kb_e ((kb_e k1 e14).tr k5) e6
    walk_at "uz"
    refine k _ _ k06 fun S hS bS => .inl ⟨_, ?_, g2, g1⟩
    have hS1 := mut_kb hS k1
    have rr : RDpA S K H4 (vs1 ++ vs3) (odR1 q.num (q.den : Int) ++ odR2 q.num (q.den : Int) (PySem.Str.ofString (toString (q.num / 7)))) := rdpa_app ((r2 S hS1).mv fun a o _ h => (e3.tr e4) a o h) ((r3 S (mut_ex hS1 e2)).mv fun a o _ h => e4 a o h)
    have hS6 := mut_kb hS k06
    refine rdp_t f6 (mut_fresh (mut_kb (mut_ex hS1 e14) k5) n6) (rdpa_cons (rdp_im hS6 fun H2 m => zd H2 ((e14.im.tr (k5.im.tr e6.im)).tr m)) (rdpa_cons (((rdpa_get rr m1 m2).mv (kb_off k5 bS)).mv fun a o _ h => e6 a o h) rdpa_nil))
  walk_at "uz"
  refine s_ite (fun c2 => ?_) (fun c2 => ?_)
  · walk_at "uz"
    refine s_dml (K := K) (ds := odP (spotD (s, i, j)) (ratD q)) (dm_cons (dm_tup (dm_cons (dm_v rfl zd) dm_nil) (Nat.le_of_ble_eq_true rfl)) (dm_cons (dm_tup (dm_cons (dm_v rfl zd) (dm_cons (dm_v rfl vd) (dm_cons (dm_v rfl vd) dm_nil))) (Nat.le_of_ble_eq_true rfl)) (dm_cons (dm_lst (dm_cons (dm_v rfl zd) (dm_cons (dm_v rfl vd) dm_nil)) (Nat.le_of_ble_eq_true rfl)) (dm_cons (dm_tup (dm_cons (dm_v rfl vd) (dm_cons (dm_v rfl zd) dm_nil)) (Nat.le_of_ble_eq_true rfl)) (dm_cons (dm_v rfl zd) (dm_cons dm_non (dm_cons dm_int (dm_cons (dm_tup dm_nil (Nat.le_of_ble_eq_true rfl)) dm_nil)))))))) (Nat.le_of_ble_eq_true rfl) fun q1 vs1 H2 n2 e2 h2 vl1 r2 => ?_
    walk_at "uz"
    refine ⟨b, k1.b1.ex e2, .inl ⟨q1, _, rfl, .of h2, by rw [vl1]; exact Nat.le_of_ble_eq_true rfl, by rw [vl1]; exact Nat.le_of_ble_eq_true rfl, fun w H5 hw k5 => ?_⟩⟩
    obtain ⟨m, d, m1, m2, m3⟩ := mem_at vl1 hw
    obtain ⟨g1, g2⟩ := odP_ok hok q d m3
    refine k _ _ ((kb_e k1 e2).tr k5) fun S hS bS => .inl ⟨_, (rdpa_get (r2 S (mut_kb hS k1)) m1 m2).mv (kb_off k5 bS), g2, g1⟩
  walk_at "uz"
  refine s_ite (fun c3 => ?_) (fun c3 => ?_)
  · have n0 : n = 0 := by omega
    subst n0
    obtain ⟨zg, qg⟩ := Prod.mk.inj (Option.some.inj (htn.symm.trans G.g))
    walk_at "uz"
    refine s_aml (P := FirP K) (n := 4) (am_cons (fun H Q e h => by
        refine s_tupE ?_
        walk_at "uz"
        refine s_tupE ?_
        walk_at "uz"
        refine s_szN (Nat.le_of_ble_eq_true rfl) fun t1 n1 => s_nw n1 fun H2 e2 f2 => ?_
        walk_at "uz"
        refine s_szN (Nat.le_of_ble_eq_true rfl) fun t2 n2 => s_nw n2 fun H3 e3 f3 => ?_
        refine h _ _ (e2.tr e3) fun H4 m => ⟨t2, _, _, ("grounds", 0, 0), q, rfl, sqt_im (.of f3) m, spot_im ⟨t1, rfl, e3 _ _ f2⟩ m, grs_ok.1, rq_im (rq_ex hf1 (e.tr (e2.tr e3))) m, fun z => grs_ne.1 (Prod.mk.inj z).1⟩) (am_cons (fun H Q e h => by
        refine s_tupE ?_
        walk_at "uz"
        refine s_tupE ?_
        walk_at "uz"
        refine s_szN (Nat.le_of_ble_eq_true rfl) fun t1 n1 => s_nw n1 fun H2 e2 f2 => ?_
        walk_at "uz"
        refine s_szN (Nat.le_of_ble_eq_true rfl) fun t2 n2 => s_nw n2 fun H3 e3 f3 => ?_
        refine h _ _ (e2.tr e3) fun H4 m => ⟨t2, _, _, ("ground", 0, 1), q, rfl, sqt_im (.of f3) m, spot_im ⟨t1, rfl, e3 _ _ f2⟩ m, grs_ok.2, rq_im (rq_ex hf1 (e.tr (e2.tr e3))) m, fun z => grs_ne.2 (Prod.mk.inj z).1⟩) (am_cons (fun H Q e h => by
        refine s_tupE ?_
        walk_at "uz"
        refine s_tupE ?_
        walk_at "uz"
        refine s_szN (Nat.le_of_ble_eq_true rfl) fun t1 n1 => s_nw n1 fun H2 e2 f2 => ?_
        walk_at "uz"
        refine s_szN (Nat.le_of_ble_eq_true rfl) fun t2 n2 => s_nw n2 fun H3 e3 f3 => ?_
        refine h _ _ (e2.tr e3) fun H4 m => ⟨t2, _, _, (s, i, j), 1, rfl, sqt_im (.of f3) m, spot_im (spot_im hz1 (e.tr (e2.tr e3)).im) m, hok, rq_im ⟨t1, rfl, .of (e3 _ _ f2)⟩ m, fun z => absurd (Prod.mk.inj z).2 (by decide)⟩) (am_cons (fun H Q e h => by
        refine s_tupE ?_
        walk_at "uz"
        refine s_tupE ?_
        walk_at "uz"
        refine s_szN (Nat.le_of_ble_eq_true rfl) fun t1 n1 => s_nw n1 fun H2 e2 f2 => ?_
        walk_at "uz"
        refine s_szN (Nat.le_of_ble_eq_true rfl) fun t2 n2 => s_nw n2 fun H3 e3 f3 => ?_
        refine h _ _ (e2.tr e3) fun H4 m => ⟨t2, _, _, (s, i, j), m13, rfl, sqt_im (.of f3) m, spot_im (spot_im hz1 (e.tr (e2.tr e3)).im) m, hok, rq_im ⟨t1, rfl, .of (e3 _ _ f2)⟩ m, fun z => m13_ne (Prod.mk.inj z).2⟩) am_nil)))) (Nat.le_of_ble_eq_true rfl) fun q1 vs1 H2 e2 h2 vl1 r2 => ?_
    walk_at "uz"
    refine ⟨b, k1.b1.ex e2, .inl ⟨q1, _, rfl, .of h2, by rw [vl1]; exact Nat.le_of_ble_eq_true rfl, by rw [vl1]; exact Nat.le_of_ble_eq_true rfl, fun w H5 hw k5 => ?_⟩⟩
    obtain ⟨xq', a', b', z', r', h1, h3, h4, h5, h6, h7⟩ := r2 H5 k5.im w hw
    exact k _ _ ((kb_e k1 e2).tr k5) fun S hS bS => .inr ⟨xq', a', b', z', r', h1, h3, h4, h5, h6, .inr ⟨rfl, h7⟩⟩
  walk_at "uz"
  refine s_tupE ?_
  walk_at "uz"
  refine ⟨b, _, rfl, k1.b1, by omega, lt_log9000 (by omega), fun m H2 m0 m1 k2 => ?_⟩
  obtain ⟨m, rfl⟩ := Int.eq_ofNat_of_zero_le m0
  obtain ⟨t2, htm⟩ : ∃ t, ts[m]? = some t := ⟨_, List.getElem?_eq_getElem (by omega)⟩
  obtain ⟨x2, hxm⟩ : ∃ x, us[m]? = some x := ⟨_, List.getElem?_eq_getElem (by omega)⟩
  obtain ⟨xq2, sa2, fa2, rfl, hxq2, hsa2, hfa2⟩ := ht.at_ m x2 t2 hxm htm
  have k02 := k1.tr k2
  have hxq22 := sqt_im hxq2 k02.im
  walk_at "uz"
  refine s_ixL (.of (k02.at hp fun _ z => by cases z)) (atI_nat hxm) ?_
  walk_at "uz"
  refine s_lstE ?_
  walk_at "uz"
  refine s_tupE ?_
  walk_at "uz"
  refine s_szN (Nat.le_of_ble_eq_true rfl) fun t3 n3 => s_nw n3 fun H3 e3 f3 => ?_
  walk_at "uz"
  refine s_szN (Nat.le_of_ble_eq_true rfl) fun t4 n4 => s_nw n4 fun H4 e4 f4 => ?_
  have e24 := e3.tr e4
  walk_at "uz"
  refine ⟨b, k2.b1.ex e24, .inl ⟨t4, _, rfl, .of f4, Nat.le_of_ble_eq_true rfl, Nat.le_of_ble_eq_true rfl, fun w H5 hw k5 => ?_⟩⟩
  have k25 := (kb_e (Kb.refl k2.b1) e24).tr k5
  have k05 := k02.tr k25
  have hw5 : ∃ r, RQ K H5 w r := by
    simp only [List.mem_cons, List.not_mem_nil, or_false] at hw
    rcases hw with rfl | rfl
    · exact ⟨q, rq_kb hfa k05⟩
    · exact ⟨0, t3, rfl, sqt_im (.of (e4 _ _ f3)) k5.im⟩
  obtain ⟨r, hr⟩ := hw5
  walk_at "uz"
  refine s_szN (Nat.le_of_ble_eq_true rfl) fun t6 n6 => s_nw n6 fun H6 e6 f6 => ?_
  walk_at "uz"
  refine k _ _ (kb_e k05 e6) fun S hS bS => .inr ⟨t6, _, _, t2.1, r, rfl, .of f6, spot_im hsa2 (k05.im.tr e6.im), (G.ok t2 (List.mem_of_getElem? htm)).ok, rq_ex hr e6, .inl (List.mem_map.mpr ⟨t2, List.mem_of_getElem? (l := ts.take n) (i := m) (by rw [List.getElem?_take, if_pos (by omega)]; exact htm), rfl⟩)⟩
end

theorem bads_mv {K : PySem.W.Frag} {S : List Addr} {H H' : Hp} {x : V} {ts : List Term} (h : BadS K S H x ts) (m : ∀ a o, a ∉ S → H a = some o → H' a = some o) (i : Im H H') : BadS K S H' x ts :=
  h.imp (fun ⟨d, a, b⟩ => ⟨d, a.mv m, b⟩) fun ⟨q, a, b, z, r, h1, h2, h3, h4, h5, h6⟩ => ⟨q, a, b, z, r, h1, sqt_im h2 i, spot_im h3 i, h4, rq_im h5 i, h6⟩
theorem bads_p {K : PySem.W.Frag} {S : List Addr} {H : Hp} {x : V} {ts : List Term} (h : BadS K S H x ts) : BadP K H x ts := h.imp (fun ⟨d, a, b⟩ => ⟨d, a.dp, b⟩) id
/-- a row with a first wrong pair, and where it is -/
def CaseR (K : PySem.W.Frag) (H : Hp) (x : V) : Prop := ∃ t pa us ts, x = .ref t ∧ SqT K H t [.ref pa, .int (ts.length : Nat)] ∧ SqA K H pa us ∧ BadR K H us ts
theorem case_ex {K : PySem.W.Frag} {H H' : Hp} {x : V} (h : CaseR K H x) (e : Ex H H') : CaseR K H' x := let ⟨t, pa, us, ts, h1, h2, h3, h4⟩ := h; ⟨t, pa, us, ts, h1, Ex.st h2 e, h3.kx e.kx, badr_ex h4 e⟩
theorem badr_nil {K : PySem.W.Frag} {H : Hp} : BadR K H [] [] := ⟨Nat.zero_le _, ⟨rfl, fun i v t a => by cases a⟩, List.nodup_nil, fun h => absurd rfl h, fun t m => (by cases m), .inl ⟨rfl, rfl⟩⟩
theorem ixN_n {l j : Nat} (h : j < l) : ixN l (j : Int) = some j := by
  unfold ixN
  rw [if_pos (by omega), if_pos (by omega)]
  rfl
section
variable {P : Program} {w : World} {K : PySem.W.Frag} {mg : Str → Option Value} {base : Heap}
variable {cE cS cX cN cP cW cG cZ : Addr}
theorem ok_l_wrong_rows_refused (T : Tp P K mg cE cS cX cN cP cW cG cZ)
    (c_World_init : CalC P w K mg base 4 "World" cW P_World_init (spInitB K cW cX))
    (c_l_integer_h : CalH P w K mg base 1 "_law_integer" P_l_integer (spIntH))
    (c_l_pick : Cal P w K mg base 1 "_law_pick" P_l_pick [] (spPick))
    (c_l_wrong_pair : Cal P w K mg base 3 "_law_wrong_pair" P_l_wrong_pair [] (spWrongPair K))
    {f : Addr} {fd : FuncData} {dvs : List V} (F : FunD K "_law_wrong_rows_refused" "_law_wrong_rows_refused" (defArgs s_l_wrong_rows_refused) (defBody s_l_wrong_rows_refused) (defScope s_l_wrong_rows_refused) dvs [] f fd) : FnG P w K mg base 6 f fd P_l_wrong_rows_refused (spWrongRows K) := by
  refine fng F sc_l_wrong_rows_refused (by walk_at "ulen") (fun cdv A outer s H vs Q E hr0 hg0 h => ?_)
  have hr : Rm 5 (A.deeper (envOfC "_law_wrong_rows_refused" (defScope s_l_wrong_rows_refused) s.heap.objs.size f cdv)) := ⟨hr0, hg0⟩
  have nd : N_l_wrong_rows_refused.Nodup := sc_l_wrong_rows_refused.nd
  have tk : Takes (cxOf (L2.CX P w) P w K mg base N_l_wrong_rows_refused "_law_wrong_rows_refused" (defScope s_l_wrong_rows_refused) f cdv A outer s H E) (fun cls d _ H => E cls d H) := takes_of rfl rfl rfl rfl
  have po : PassesOwn (model P w) (cxOf (L2.CX P w) P w K mg base N_l_wrong_rows_refused "_law_wrong_rows_refused" (defScope s_l_wrong_rows_refused) f cdv A outer s H E).A (cxOf (L2.CX P w) P w K mg base N_l_wrong_rows_refused "_law_wrong_rows_refused" (defScope s_l_wrong_rows_refused) f cdv A outer s H E).env (cxOf (L2.CX P w) P w K mg base N_l_wrong_rows_refused "_law_wrong_rows_refused" (defScope s_l_wrong_rows_refused) f cdv A outer s H E).xe := passes_of rfl
  obtain ⟨b, p, us, ts, rfl, hb, hp, ht, G, sz, tl, k⟩ := h
  have ul := ht.len
  have g0 : 0 < ts.length := (List.getElem?_eq_some_iff.mp G.g).1
  refine ⟨_, (pss_cons (ps_set (i := 2) nd rfl (Or.inl rfl) (pe_callTy call_uList (by rfl) T.list b_list (pa_cons (pv 1) pa_nil)))
    (pss_cons (ps_set (i := 3) nd rfl (Or.inl rfl) (pe_c (E := En) c_l_pick (hr.mono (by decide)) paN (pa_cons (pv 0) (pa_cons (pe_callB call_uLen (by rfl) T.len b_len (pa_cons (pv 1) pa_nil)) pa_nil))))
    (pss_cons (ps_asg (pe_c (E := En) c_l_wrong_pair (hr.mono (by decide)) paN (pa_cons (pv 0) (pa_cons (pv 1) (pa_cons (pv 3) pa_nil)))) (pg_sub (pv 2) (pv 3) set_list))
    (pss_cons (ps_set (i := 4) nd rfl (Or.inl rfl) (pe_op op_uAdd (pv 3) (pe_c (E := En) c_l_pick (hr.mono (by decide)) paN (pa_cons (pv 0) (pa_cons (pe_op op_sub (pe_callB call_uLen (by rfl) T.len b_len (pa_cons (pv 1) pa_nil)) (pv 3)) pa_nil)))))
    (pss_consJ (ps_if (pt_cmpR op_gt (pv 4) (pv 3) (nomark _)) (pss_one (ps_asg (pe_c (E := En) c_l_wrong_pair (hr.mono (by decide)) paN (pa_cons (pv 0) (pa_cons (pv 1) (pa_cons (pv 4) pa_nil)))) (pg_sub (pv 2) (pv 4) set_list))) pss_nil)
    (pss_cons (ps_set (i := 5) nd rfl (Or.inl rfl) (pe_lst pa_nil))
    (pss_cons (ps_for po rfl (pi_list (pe_lst (pa_cons (pe_tup (pa_cons (pv 2) (pa_cons (pv 3) pa_nil))) (pa_cons (pe_tup (pa_cons (pe_callTy call_uTup (by rfl) T.tuple b_tuple (pa_cons (pv 2) pa_nil)) (pa_cons (pv 3) pa_nil))) (pa_cons (pe_tup (pa_cons (pe_lst pa_nil) (pa_cons pe_int pa_nil))) (pa_cons (pe_tup (pa_cons (pe_tup pa_nil) (pa_cons pe_int pa_nil))) pa_nil)))))) (pg_name (i := 6) nd rfl (Or.inl rfl))
    (pss_one (ps_tryC tk (fun W_ pn_ xe_ tkb pob =>
      (pss_one (ps_expr (pe_bmK (K := K) rfl PySem.F.plainAttrs_list PySem.F.slot_list_append PySem.F.type_list_append mt_append (pv 5) (pa_cons (pe_mkG (E := WE _) c_World_init (hr.mono (by decide)) (fun σ => passAt tkb σ) (pa_cons (pe_ix (ix_seqK (K := K) rfl) (pv 6) pe_int (fun _ _ => rfl)) pa_nil)) pa_nil)))))
      (ClOk.named (i := 7) ⟨by rfl, by decide, Or.inl T.g_EllError⟩ nd rfl rfl
      (fun a_ oe_ cls_ d_ pn_ hz hf => (pss_cons (ps_if (PW.pt (pw_or (pt_not (pt_val (pe_callB (call_isX hz hf) (by rfl) T.isinstance b_isinstance (pa_cons (pv 7) (pa_cons (pe_gR T.g_BadWorld) pa_nil))))) (pw_or (pt_val (pe_callB (call_isX hz hf) (by rfl) T.isinstance b_isinstance (pa_cons (pv 7) (pa_cons (pe_tup (pa_cons (pe_gR T.g_NoSpot) (pa_cons (pe_gR T.g_BadSpot) pa_nil))) pa_nil)))) (pw_or1 (pt_not (pt_val (pe_callB (call_isX hz hf) (by rfl) T.isinstance b_isinstance (pa_cons (pv 7) (pa_cons (pe_bltn (v := .ty "ValueError") (by rfl) T.ValueError b_ValueError rfl) pa_nil))))))))) (pss_one (ps_ret pe_bl)) pss_nil)
    (pss_one (ps_if (PW.pt (pw_or (pt_not (pt_val (pe_cH (E := En) c_l_integer_h (rmH_of hr (by decide)) ⟨_, List.mem_cons_self, hz, hf⟩ paN (pa_cons (pe_xf T.xf_BadWorld T.xn_BadWorld_place hz hf (pv 7)) pa_nil)))) (pw_or1 (pt_cmpR (op_uNeK (K := K) rfl hr.r.units) (pe_xf T.xf_BadWorld T.xn_BadWorld_place hz hf (pv 7)) (pe_ix (ix_seqK (K := K) rfl) (pv 6) pe_int (fun _ _ => rfl)) (nomark _))))) (pss_one (ps_ret pe_bl)) pss_nil))))
      ClOk.nil))))
    (pss_one (ps_ret (pe_cmpR (op_uEq hr.r.units) (pv 5) (pe_lst pa_nil) (nomark _))))))))))), ?_⟩
  walk_at "uk"
  walk_at "uz"
  refine s_listL (.of hp) fun r0 nr => s_nw nr fun H1 e1 f1 => ?_
  have hp1 := e1 _ _ hp
  have nr0 : H r0 = none := nr
  walk_at "uz"
  rw [ul]
  refine ⟨b, _, rfl, hb.ex e1, by omega, lt_log9000 (by omega), fun d H2 d0 d1 k2 => ?_⟩
  obtain ⟨n, rfl⟩ := Int.eq_ofNat_of_zero_le d0
  have f2 := k2.at f1 fun _ z => by cases z
  have k02 := (kb_e (Kb.refl hb) e1).tr k2
  have hp2 := k02.at hp fun _ z => by cases z
  walk_at "uz"
  refine ⟨b, p, us, ts, n, rfl, k2.b1, hp2, terms_im ht k02.im, G, sz, tl, by omega, fun v H3 k3 hv => ?_⟩
  have mS : MutS H2 [b, r0] := fun a m => by
    simp only [List.mem_cons, List.not_mem_nil, or_false] at m
    rcases m with rfl | rfl
    · obtain ⟨kvs, hk⟩ := bag_dk k2.b1
      exact ⟨.dK kvs, hk, fun z => z⟩
    · exact ⟨_, f2, fun z => z⟩
  have bs3 := hv _ mS (by simp)
  clear hv mS
  have f3 := k3.at f2 fun _ z => by cases z
  have k03 := k02.tr k3
  walk_at "uz"
  refine ⟨r0, us, _, n, rfl, rfl, f3, ixN_n (by omega), ?_⟩
  refine s_mw f3 fun H4 m4 i4 f4 => ?_
  have k04 := kb_mx nr0 k03 m4 f4
  have offS : ∀ {Ha Hb : Hp}, (∀ a o, a ≠ r0 → Ha a = some o → Hb a = some o) → ∀ a o, a ∉ [b, r0] → Ha a = some o → Hb a = some o := fun m a o na h => m a o (fun z => na (by rw [z]; simp)) h
  have bs4 := bads_mv bs3 (offS m4) i4
  have xl4 : (us.set n v).length = ts.length := by rw [List.length_set]; exact ul
  have tk4 : (us.set n v).take n = us.take n := by rw [List.take_set_of_le (Nat.le_refl _)]
  have at4 : (us.set n v)[n]? = some v := by rw [List.getElem?_set_self (by omega)]
  generalize us.set n v = xs4 at f4 xl4 tk4 at4
  have hp4 := k04.at hp fun _ z => by cases z
  clear bs3
  walk_at "uz"
  rw [ul]
  refine ⟨b, _, rfl, k04.b1, by omega, lt_log9000 (by omega), fun r5 H5 r50 r51 k5 => ?_⟩
  have k05 := k04.tr k5
  have f5 := k5.at f4 fun _ z => by cases z
  have bs5 := bads_mv bs4 (kb_off k5 (by simp)) k5.im
  have hp5 := k5.at hp4 fun _ z => by cases z
  walk_at "uj"
  refine s_seqJ (fun σ' H' => Kb b H H' ∧ ∃ xs, H' r0 = some (.lst xs) ∧ xs.length = ts.length ∧ xs.take n = us.take n ∧ xs[n]? = some v ∧ BadS K [b, r0] H' v (ts.take n) ∧ σ' = [some (.ref b), some (.ref p), some (.ref r0), some (.int (n : Nat)), some (.int ((n : Int) + r5)), none, none, none]) ?_ (fun R hR => ?_)
  rotate_left
  · walk_at "uz"
    refine s_ite (fun c => ?_) (fun c => ?_)
    · walk_at "uz"
      obtain ⟨m, hm⟩ : ∃ m : Nat, (n : Int) + r5 = (m : Int) := ⟨((n : Int) + r5).toNat, by omega⟩
      rw [hm]
      refine ⟨b, p, us, ts, m, rfl, k05.b1, hp5, terms_im ht k05.im, G, sz, tl, by omega, fun v2 H6 k6 _ => ?_⟩
      have f6 := k6.at f5 fun _ z => by cases z
      walk_at "uz"
      refine ⟨r0, xs4, _, m, rfl, rfl, f6, ixN_n (by omega), ?_⟩
      refine s_mw f6 fun H7 m7 i7 f7 => ?_
      exact hR _ _ ⟨kb_mx nr0 (k05.tr k6) m7 f7, _, f7, by rw [List.length_set]; exact xl4, by rw [List.take_set_of_le (by omega)]; exact tk4, by rw [List.getElem?_set_ne (by omega)]; exact at4, bads_mv (bads_mv bs5 (kb_off k6 (by simp)) k6.im) (offS m7) i7, by rw [hm]; rfl⟩
    · walk_at "uz"
      exact hR _ _ ⟨k05, _, f5, xl4, tk4, at4, bs5, rfl⟩
  clear k05 f5 bs5 hp5 k5 f4 bs4 hp4 k04 i4 m4 xl4 tk4 at4 xs4 f3 k03 k3
  rintro σ' H6 ⟨k6, xs, f6, xl, tk, atn, bs, rfl⟩
  have tnl : (ts.take n).length = n := by rw [List.length_take]; omega
  have br6 : BadR K H6 xs (ts.take n) := by
    refine ⟨by omega, ?_, ?_, fun h => ?_, fun t m => (G.ok t (List.mem_of_mem_take m)).ok, .inr ⟨v, by rw [tnl]; exact atn, bads_p bs⟩⟩
    · rw [tnl, tk]
      exact terms_take (terms_im ht k6.im) n
    · exact (sub_nd (List.take_sublist n ts) G.nd)
    · have n0 : n ≠ 0 := fun z => h (by rw [z]; rfl)
      rw [List.getElem?_take, if_pos (by omega)]
      exact G.g
  walk_at "uz"
  refine s_lstE ?_
  walk_at "uz"
  refine s_szN (Nat.zero_le _) fun mq n7 => s_nw n7 fun H7 e7 f7 => ?_
  walk_at "uz"
  refine s_lstE ?_
  walk_at "uz"
  refine s_tupE ?_
  walk_at "uz"
  refine s_szN (Nat.le_of_ble_eq_true rfl) fun t1 n8 => s_nw n8 fun H8 e8 f8 => ?_
  walk_at "uz"
  refine s_tupE ?_
  walk_at "uz"
  refine s_tupOfL (.of ((e7.tr e8) _ _ f6)) fun t2 H9 e9 f9 => ?_
  walk_at "uz"
  refine s_szN (Nat.le_of_ble_eq_true rfl) fun t3 n10 => s_nw n10 fun H10 e10 f10 => ?_
  walk_at "uz"
  refine s_tupE ?_
  walk_at "uz"
  refine s_lstE ?_
  walk_at "uz"
  refine s_szN (Nat.zero_le _) fun t4 n11 => s_nw n11 fun H11 e11 f11 => ?_
  walk_at "uz"
  refine s_szN (Nat.le_of_ble_eq_true rfl) fun t5 n12 => s_nw n12 fun H12 e12 f12 => ?_
  walk_at "uz"
  refine s_tupE ?_
  walk_at "uz"
  refine s_tupE ?_
  walk_at "uz"
  refine s_szN (Nat.zero_le _) fun t6 n13 => s_nw n13 fun H13 e13 f13 => ?_
  walk_at "uz"
  refine s_szN (Nat.le_of_ble_eq_true rfl) fun t7 n14 => s_nw n14 fun H14 e14 f14 => ?_
  walk_at "uz"
  refine s_szN (Nat.le_of_ble_eq_true rfl) fun l8 n15 => s_nw n15 fun H15 e15 f15 => ?_
  have a1 : Ex H14 H15 := e15
  have a2 := e14.tr a1
  have a3 := e13.tr a2
  have a4 := e12.tr a3
  have a5 := e11.tr a4
  have a6 := e10.tr a5
  have a7 := e9.tr a6
  have a8 := e8.tr a7
  have a9 := e7.tr a8
  have f715 := a8 _ _ f7
  have cases4 : ∀ x ∈ [V.ref t1, .ref t3, .ref t5, .ref t7], CaseR K H15 x := fun x m => by
    simp only [List.mem_cons, List.not_mem_nil, or_false] at m
    rcases m with rfl | rfl | rfl | rfl
    · exact ⟨t1, r0, xs, ts.take n, rfl, by rw [tnl]; exact .of (a7 _ _ f8), .inl (.of (a9 _ _ f6)), badr_ex br6 a9⟩
    · exact ⟨t3, t2, xs, ts.take n, rfl, by rw [tnl]; exact .of (a5 _ _ f10), .inr (Ex.st f9 a6), badr_ex br6 a9⟩
    · exact ⟨t5, t4, [], [], rfl, .of (a3 _ _ f12), .inl (.of (a4 _ _ f11)), badr_nil⟩
    · exact ⟨t7, t6, [], [], rfl, .of (a1 _ _ f14), .inr (.of (a2 _ _ f13)), badr_nil⟩
  have k015 := kb_e k6 a9
  clear a1 a2 a3 a4 a5 a6 a7 a8 a9 f8 f9 f10 f11 f12 f13 f14 e7 e8 e9 e10 e11 e12 e13 e14 e15 br6 bs f6 f7 n7 n8 n10 n11 n12 n13 n14 n15
  walk_at "uz"
  refine loopL (xs := [V.ref t1, .ref t3, .ref t5, .ref t7]) (fun i σ' H' => Ex H15 H' ∧ ∃ o6, σ' = [some (.ref b), some (.ref p), some (.ref r0), some (.int (n : Nat)), some (.int ((n : Int) + r5)), some (.ref mq), o6, none]) ⟨exR _, _, rfl⟩ (fun i σ' H' h => .of (h.1 _ _ f15)) ?_ ?_
  · rintro σ' H16 ⟨e16, o6, rfl⟩
    walk_at "uz"
    refine s_lstE ?_
    walk_at "uz"
    refine s_szN (Nat.zero_le _) fun q17 n17 => s_nw n17 fun H17 e17 f17 => ?_
    refine eq_same (d := .list []) (.lst (.of (e17 _ _ (e16 _ _ f715))) .nil) (.lst (.of f17) .nil) rfl ?_
    exact k _ (kb_e k015 (e16.tr e17))
  · rintro i x σ' H16 hx ⟨e16, o6, rfl⟩
    obtain ⟨tq, pa, us2, ts2, rfl, htq, hpa, br⟩ := case_ex (cases4 x (List.mem_of_getElem? hx)) e16
    have f716 := e16 _ _ f715
    walk_at "uz"
    refine s_tyL (.of f716) ?_
    walk_at "uz"
    refine s_mkBad hpa br fun e H17 e17 he => ?_
    refine s_hit T.mXE fun a' ha' => ?_
    dsimp only [setO, endO]
    walk_at "us"
    refine s_isXr he T.eX T.oXX ?_
    walk_at "uz"
    refine s_tupE ?_
    walk_at "uz"
    refine s_szN (Nat.le_of_ble_eq_true rfl) fun t18 n18 => s_nw n18 fun H18 e18 f18 => ?_
    refine ⟨cX, e, _, rfl, rfl, e18 _ _ he, T.eX, .inr ⟨t18, _, _, false, rfl, f18, .cons (.own cS) (.cons (.own cP) .nil), T.oXO, ?_⟩⟩
    walk_at "uz"
    refine s_isXt (e18 _ _ he) T.eX T.oXV ?_
    walk_at "uz"
    refine s_xfV rfl (e18 _ _ he) rfl ?_
    walk_at "uz"
    refine ⟨_, rfl, ?_⟩
    walk_at "uz"
    refine s_xfV rfl (e18 _ _ he) rfl ?_
    have htq18 := Ex.st htq (e17.tr e18)
    walk_at "uz"
    rw [decide_eq_true rfl]
    walk_at "uz"
    exact ⟨e16.tr (e17.tr e18), _, rfl⟩
end

def odK1 (s : Str) (i j : Int) : List PyData := [.list [.str s, .int i, .int j], .tuple [.str s, .int i], .tuple [.str s, .int i, .int j, .int 1], .tuple [.int i, .str s, .int j], .tuple [.str s, .bool true, .int 0], .tuple [.str s, .int 0, .bool false]]
def odK2 (s : Str) (i j : Int) (t : Str) : List PyData := [.tuple [.str s, .int i, .str t], .tuple [.str s, .none, .int 0], .tuple [.tuple [], .int 0, .int 0], .tuple [], .none, .int 3, .str s, .tuple [spotD (s, i, j), spotD (s, i, j), spotD (s, i, j)]]
theorem odK_no {s t : Str} {i j : Int} : (odK1 s i j ++ odK2 s i j t).map isSpotD = List.replicate 14 false := rfl
theorem spots_yes : ∀ zs : List Spot, (zs.map spotD).map isSpotD = List.replicate zs.length true
  | [] => rfl
  | z :: zs => by rw [List.map_cons, List.map_cons, spots_yes zs]; rfl
theorem dpa_bls {K : PySem.W.Frag} {H : Hp} : ∀ bs : List Bool, DpAll K H (bs.map V.bl) (bs.map PyData.bool)
  | [] => .nil
  | b :: bs => .cons (.bl b) (dpa_bls bs)
theorem bls_lay : ∀ bs : List Bool, PyData.canLayAll0 (bs.map PyData.bool) = true ∧ PyData.depthAll (bs.map PyData.bool) = 0
  | [] => ⟨rfl, rfl⟩
  | b :: bs => by
    obtain ⟨h1, h2⟩ := bls_lay bs
    rw [List.map_cons, PyData.canLayAll0, PyData.depthAll, h1, h2]
    exact ⟨rfl, rfl⟩
theorem bls_sh (bs : List Bool) : SeqAt.shaped (.list (bs.map PyData.bool)) = true := by
  obtain ⟨h1, h2⟩ := bls_lay bs
  rw [SeqAt.shaped, PyData.canLay0, PyData.depth, h1, h2]
  rfl
theorem all_rep {ys : List V} {n : Nat} {b : Bool} (l : ys.length = n) (h : ∀ (j : Nat) v, ys[j]? = some v → v = .bl b) : ys = (List.replicate n b).map V.bl := by
  rw [List.map_replicate]
  exact List.eq_replicate_iff.mpr ⟨l, fun v m => by
    obtain ⟨j, hj⟩ := List.mem_iff_getElem?.mp m
    exact h j v hj⟩
section
variable {P : Program} {w : World} {K : PySem.W.Frag} {mg : Str → Option Value} {base : Heap}
variable {cE cS cX cN cP cW cG cZ : Addr}
theorem ok_l_spots_known (T : Tp P K mg cE cS cX cN cP cW cG cZ)
    (c_is_spot : Cal P w K mg base 2 "is_spot" P_is_spot [] (spIsSpot K))
    (c_l_choice : Cal P w K mg base 2 "_law_choice" P_l_choice [] (spChoice K))
    (c_l_spot_like : Cal P w K mg base 2 "_law_spot_like" P_l_spot_like [] (spIsSpot K))
    {f : Addr} {fd : FuncData} {dvs : List V} (F : FunD K "_law_spots_known" "_law_spots_known" (defArgs s_l_spots_known) (defBody s_l_spots_known) (defScope s_l_spots_known) dvs [] f fd) : FnG P w K mg base 3 f fd P_l_spots_known (spKnown) := by
  refine fng F sc_l_spots_known (by walk_at "ulen") (fun cdv A outer s H vs Q E hr0 hg0 h => ?_)
  have hr : Rm 2 (A.deeper (envOfC "_law_spots_known" (defScope s_l_spots_known) s.heap.objs.size f cdv)) := ⟨hr0, hg0⟩
  have nd : N_l_spots_known.Nodup := sc_l_spots_known.nd
  obtain ⟨b, p, us, zs, rfl, hb, hp, hs, D, k⟩ := h
  have ul := hs.len
  have zl := D.len
  have z0 : 0 < zs.length := (List.getElem?_eq_some_iff.mp D.g).1
  refine ⟨_, (pss_cons (ps_set (i := 2) nd rfl (Or.inl rfl) (pe_c (E := En) c_l_choice (hr.mono (by decide)) paN (pa_cons (pv 0) (pa_cons (pv 1) pa_nil))))
    (pss_cons (ps_set (i := 3) nd rfl (Or.inl rfl) (pe_lst (pa_cons (pe_callTy call_uList (by rfl) T.list b_list (pa_cons (pv 2) pa_nil)) (pa_cons (pe_slice sl_u (pv 2) po_none (po_some pe_int)) (pa_cons (pe_op op_uAdd (pv 2) (pe_tup (pa_cons pe_int pa_nil))) (pa_cons (pe_tup (pa_cons (pe_ix ix_seq (pv 2) pe_int (fun _ _ => rfl)) (pa_cons (pe_ix ix_seq (pv 2) pe_int (fun _ _ => rfl)) (pa_cons (pe_ix ix_seq (pv 2) pe_int (fun _ _ => rfl)) pa_nil)))) (pa_cons (pe_tup (pa_cons (pe_ix ix_seq (pv 2) pe_int (fun _ _ => rfl)) (pa_cons pe_bl (pa_cons pe_int pa_nil)))) (pa_cons (pe_tup (pa_cons (pe_ix ix_seq (pv 2) pe_int (fun _ _ => rfl)) (pa_cons pe_int (pa_cons pe_bl pa_nil)))) pa_nil))))))))
    (pss_cons (ps_set (i := 3) nd rfl (Or.inl rfl) (pe_op op_uAdd (pv 3) (pe_lst (pa_cons (pe_tup (pa_cons (pe_ix ix_seq (pv 2) pe_int (fun _ _ => rfl)) (pa_cons (pe_ix ix_seq (pv 2) pe_int (fun _ _ => rfl)) (pa_cons (pe_callTy call_uStr (by rfl) T.str b_str (pa_cons (pe_ix ix_seq (pv 2) pe_int (fun _ _ => rfl)) pa_nil)) pa_nil)))) (pa_cons (pe_tup (pa_cons (pe_ix ix_seq (pv 2) pe_int (fun _ _ => rfl)) (pa_cons pe_non (pa_cons pe_int pa_nil)))) (pa_cons (pe_tup (pa_cons (pe_tup pa_nil) (pa_cons pe_int (pa_cons pe_int pa_nil)))) (pa_cons (pe_tup pa_nil) (pa_cons pe_non (pa_cons pe_int (pa_cons (pe_ix ix_seq (pv 2) pe_int (fun _ _ => rfl)) (pa_cons (pe_tup (pa_cons (pv 2) (pa_cons (pv 2) (pa_cons (pv 2) pa_nil)))) pa_nil)))))))))))
    (pss_cons (ps_if (PW.pt (pw_or (pt_cmpR (op_uNe hr.r.units) (pe_gR T.g_GROUND) (pe_tup (pa_cons pe_str (pa_cons pe_int (pa_cons pe_int pa_nil)))) (nomark _)) (pw_or1 (pt_not (pt_val (pe_c (E := En) c_l_spot_like (hr.mono (by decide)) paN (pa_cons (pe_gR T.g_GROUND) pa_nil))))))) (pss_one (ps_ret pe_bl)) pss_nil)
    (pss_one (ps_ret (pe_cmpR (op_uEq hr.r.units) (pe_lc (own := [("_law_thing", 4)]) (g := gName 4) (by rfl) nd (pi_list (pe_op op_uAdd (pv 1) (pv 3))) (blkOk_by (own := [("_law_thing", 4)]) (N := N_l_spots_known) (sc := defScope s_l_spots_known) (by decide +kernel)) (fun s_ H_ C_ cl_ fp_ => pg_name (i := 4) nd rfl (Or.inl rfl)) (fun s_ H_ C_ cl_ fp_ => pts_nil) (fun s_ H_ C_ cl_ fp_ => (pe_c (E := En) c_is_spot (hr.mono (by decide)) paN (pa_cons (pv 4) pa_nil)))) (pe_op op_uAdd (pe_lc (own := [("_law_thing", 4)]) (g := gName 4) (by rfl) nd (pi_list (pv 1)) (blkOk_by (own := [("_law_thing", 4)]) (N := N_l_spots_known) (sc := defScope s_l_spots_known) (by decide +kernel)) (fun s_ H_ C_ cl_ fp_ => pg_name (i := 4) nd rfl (Or.inl rfl)) (fun s_ H_ C_ cl_ fp_ => pts_nil) (fun s_ H_ C_ cl_ fp_ => pe_bl)) (pe_lc (own := [("_law_thing", 4)]) (g := gName 4) (by rfl) nd (pi_list (pv 3)) (blkOk_by (own := [("_law_thing", 4)]) (N := N_l_spots_known) (sc := defScope s_l_spots_known) (by decide +kernel)) (fun s_ H_ C_ cl_ fp_ => pg_name (i := 4) nd rfl (Or.inl rfl)) (fun s_ H_ C_ cl_ fp_ => pts_nil) (fun s_ H_ C_ cl_ fp_ => pe_bl))) (nomark _)))))))), ?_⟩
  walk_at "uk"
  walk_at "uz"
  refine ⟨b, hb, .inl ⟨p, us, rfl, .of hp, by omega, by omega, fun v H1 hv k1 => ?_⟩⟩
  obtain ⟨m, hm⟩ := List.mem_iff_getElem?.mp hv
  obtain ⟨z, hz⟩ : ∃ z, zs[m]? = some z := ⟨_, List.getElem?_eq_getElem (by have := (List.getElem?_eq_some_iff.mp hm).1; omega)⟩
  have hz1 := spot_im (hs.at_ m v z hm hz) k1.im
  obtain ⟨zok, zlen, zi1, zi2⟩ := D.ok z (List.mem_of_getElem? hz)
  obtain ⟨s, i, j⟩ := z
  obtain ⟨zq, rfl, hzq⟩ := id hz1
  have hzq1 : SqT K H1 zq (vS (s, i, j)) := .of hzq
  have j16 : j.natAbs ≤ 2 * 10 ^ 14 := zi2
  have ixz : ∀ {H : Hp}, Ex H1 H → SqT K H zq (vS (s, i, j)) := fun e => Ex.st hzq1 e
  walk_at "uz"
  refine s_dml (K := K) (ds := odK1 s i j) (dm_cons (fun H Q e h => by
      walk_at "uz"
      refine s_listT (ixz e) fun l n => ?_
      exact h _ _ (exN n) fun S hS => rdp_l upd_same (mut_fresh (mut_ex hS e) n) (rdpa_cons rdp_s (rdpa_cons rdp_i (rdpa_cons rdp_i rdpa_nil)))) (dm_cons (dm_d fun H Q e h => by
      walk_at "uz"
      refine s_slT (ixz e) fun q1 H2 e2 f2 => ?_
      rw [show (2 : Int) = ((2 : Nat) : Int) from rfl, cutV_to _ _ (by show 2 ≤ 3; decide)] at f2
      have f2' : SqT K H2 q1 [.str s, .int i] := f2
      exact h _ _ e2 fun H3 m => .tup (sqt_im f2' m) (.cons (.str _) (.cons (.int _) .nil))) (dm_cons (dm_d fun H Q e h => by
      walk_at "uz"
      refine s_tupE ?_
      walk_at "uz"
      refine s_szN (Nat.le_of_ble_eq_true rfl) fun t1 n1 => s_nw n1 fun H2 e2 f2 => ?_
      refine s_catT (ixz (e.tr e2)) (.of f2) (Nat.le_of_ble_eq_true rfl) fun q1 H3 e3 f3 => ?_
      have f3' : SqT K H3 q1 [.str s, .int i, .int j, .int 1] := f3
      exact h _ _ (e2.tr e3) fun H3 m => .tup (sqt_im f3' m) (.cons (.str _) (.cons (.int _) (.cons (.int _) (.cons (.int _) .nil))))) (dm_cons (dm_tup (dm_cons (dm_ix (j := 1) rfl hzq1 rfl rdp_i) (dm_cons (dm_ix (j := 0) rfl hzq1 rfl rdp_s) (dm_cons (dm_ix (j := 2) rfl hzq1 rfl rdp_i) dm_nil))) (Nat.le_of_ble_eq_true rfl)) (dm_cons (dm_tup (dm_cons (dm_ix (j := 0) rfl hzq1 rfl rdp_s) (dm_cons dm_bl (dm_cons dm_int dm_nil))) (Nat.le_of_ble_eq_true rfl)) (dm_cons (dm_tup (dm_cons (dm_ix (j := 0) rfl hzq1 rfl rdp_s) (dm_cons dm_int (dm_cons dm_bl dm_nil))) (Nat.le_of_ble_eq_true rfl)) dm_nil)))))) (Nat.le_of_ble_eq_true rfl) fun q1 vs1 H2 n2 e2 h2 vl1 r2 => ?_
  walk_at "uz"
  have hzq2 := ixz e2
  have zd2 : ∀ H', Im H2 H' → Dp K H' (.ref zq) (spotD (s, i, j)) := fun H' m => spot_dp (spot_im hz1 (e2.im.tr m))
  refine s_dml (K := K) (ds := odK2 s i j (PySem.Str.ofString (toString j))) (dm_cons (dm_tup (dm_cons (dm_ix (j := 0) rfl hzq2 rfl rdp_s) (dm_cons (dm_ix (j := 1) rfl hzq2 rfl rdp_i) (dm_cons (dm_s fun H Q e h => by
      have hv := Ex.st hzq2 e
      walk_at "uz"
      refine s_strI (log_le (Nat.lt_of_le_of_lt j16 (by decide)) (by decide)) ?_
      exact h) dm_nil))) (Nat.le_of_ble_eq_true rfl)) (dm_cons (dm_tup (dm_cons (dm_ix (j := 0) rfl hzq2 rfl rdp_s) (dm_cons dm_non (dm_cons dm_int dm_nil))) (Nat.le_of_ble_eq_true rfl)) (dm_cons (dm_tup (dm_cons (dm_tup dm_nil (Nat.le_of_ble_eq_true rfl)) (dm_cons dm_int (dm_cons dm_int dm_nil))) (Nat.le_of_ble_eq_true rfl)) (dm_cons (dm_tup dm_nil (Nat.le_of_ble_eq_true rfl)) (dm_cons dm_non (dm_cons dm_int (dm_cons (dm_ix (j := 0) rfl hzq2 rfl rdp_s) (dm_cons (dm_tup (dm_cons (dm_v rfl zd2) (dm_cons (dm_v rfl zd2) (dm_cons (dm_v rfl zd2) dm_nil))) (Nat.le_of_ble_eq_true rfl)) dm_nil)))))))) (Nat.le_of_ble_eq_true rfl) fun q3 vs3 H3 n3 e3 h3 vl3 r3 => ?_
  refine s_catL (K := K) (e3 _ _ h2) h3 (by rw [vl1, vl3]; exact Nat.le_of_ble_eq_true rfl) fun q4 H4 n4 e4 f4 => ?_
  have e14 := e2.tr (e3.tr e4)
  have k04 := kb_e k1 e14
  have rr : DpAll K H4 (vs1 ++ vs3) (odK1 s i j ++ odK2 s i j (PySem.Str.ofString (toString j))) := (rdpa_app (S := []) ((r2 [] mut_nil).mv fun a o _ h => (e3.tr e4) a o h) ((r3 [] mut_nil).mv fun a o _ h => e4 a o h)).dp
  have sl : (vs1 ++ vs3).length = 14 := by rw [List.length_append, vl1, vl3]; rfl
  generalize vs1 ++ vs3 = ws at f4 rr sl
  have odno := odK_no (s := s) (t := PySem.Str.ofString (toString j)) (i := i) (j := j)
  generalize odK1 s i j ++ odK2 s i j (PySem.Str.ofString (toString j)) = es at rr odno
  clear r2 r3 h2 h3 vl1 vl3 n2 n3 n4
  walk_at "uz"
  refine s_tupE ?_
  walk_at "uz"
  refine s_szN (Nat.le_of_ble_eq_true rfl) fun t5 n5 => s_nw n5 fun H5 e5 f5 => ?_
  refine ne_same (d := spotD gr) (.tup (T.tG _) (.cons (.str _) (.cons (.int _) (.cons (.int _) .nil)))) (.tup (.of f5) (.cons (.str _) (.cons (.int _) (.cons (.int _) .nil)))) (by decide +kernel) ?_
  walk_at "uz"
  refine ⟨_, spotD gr, rfl, .tup (T.tG _) (.cons (.str _) (.cons (.int _) (.cons (.int _) .nil))), ?_⟩
  rw [show isSpotD (spotD gr) = true from rfl]
  have k05 := kb_e k04 e5
  have hp5 := k05.at hp fun _ z => by cases z
  have f45 := e5 _ _ f4
  have dall : DpAll K H5 (us ++ ws) (zs.map spotD ++ es) := dpa_cat (spots_dpa (spots_im hs k05.im)) (dpa_ex e5 _ _ rr)
  have dl := dpa_length dall
  have wsl : (us ++ ws).length = zs.length + 14 := by rw [List.length_append, ul, sl]
  walk_at "uz"
  refine s_catL (K := K) hp5 f45 (by rw [ul, sl]; show _ ≤ 16777216; omega) fun q6 H6 n6 e6 f6 => ?_
  walk_at "uz"
  refine lcC (.of f6) (by omega) (fun j v _ => ∃ d, (zs.map spotD ++ es)[j]? = some d ∧ v = .bl (isSpotD d)) imp_pure ?_ ?_
  rotate_left
  · intro C i x H' hx e hc
    obtain ⟨d, hd⟩ : ∃ d, (zs.map spotD ++ es)[i]? = some d := ⟨_, List.getElem?_eq_getElem (by rw [← dl]; exact (List.getElem?_eq_some_iff.mp hx).1)⟩
    refine ⟨rfl, ?_⟩
    walk_at "uz"
    refine ⟨x, d, rfl, dp_ex (e6.tr e) _ _ (dpa_item dall hx hd), ?_⟩
    exact hc _ _ (exR _) ⟨d, hd, rfl⟩
  intro D1 y1 H7 e7 f7 l7 h7
  rw [col_eq (zs := zs.map spotD ++ es) (f := fun d => V.bl (isSpotD d)) (l7.trans dl) h7] at f7
  rw [show (zs.map spotD ++ es).map (fun d => V.bl (isSpotD d)) = ((zs.map spotD ++ es).map isSpotD).map V.bl by rw [List.map_map]; rfl, List.map_append, spots_yes, odno] at f7
  have hp7 := e7 _ _ (e6 _ _ hp5)
  have f47 := e7 _ _ (e6 _ _ f45)
  walk_at "uz"
  refine lcC (.of hp7) (by omega) (fun j v _ => v = .bl true) imp_pure ?_ ?_
  rotate_left
  · intro C i x H' hx e hc
    refine ⟨rfl, ?_⟩
    walk_at "uz"
    exact hc _ _ (exR _) rfl
  intro D2 y2 H8 e8 f8 l8 h8
  rw [all_rep (l8.trans ul) h8] at f8
  walk_at "uz"
  refine lcC (.of (e8 _ _ f47)) (by omega) (fun j v _ => v = .bl false) imp_pure ?_ ?_
  rotate_left
  · intro C i x H' hx e hc
    refine ⟨rfl, ?_⟩
    walk_at "uz"
    exact hc _ _ (exR _) rfl
  intro D3 y3 H9 e9 f9 l9 h9
  rw [all_rep (l9.trans sl) h9] at f9
  refine s_catL (K := K) (e9 _ _ f8) f9 (by rw [List.length_map, List.length_map, List.length_replicate, List.length_replicate]; show _ ≤ 16777216; omega) fun q10 H10 n10 e10 f10 => ?_
  rw [← List.map_append] at f10
  refine eq_same (d := .list ((List.replicate zs.length true ++ List.replicate 14 false).map PyData.bool)) (.lst (.of (e10 _ _ (e9 _ _ (e8 _ _ f7)))) (dpa_bls _)) (.lst (.of f10) (dpa_bls _)) (bls_sh _) ?_
  exact k _ (kb_e k05 (e6.tr (e7.tr (e8.tr (e9.tr e10)))))
end

theorem terms_pick {K : PySem.W.Frag} {H : Hp} {B : Nat} : ∀ {ys : List V} {zs : List Spot}, ys.length = zs.length → (∀ (j : Nat) v, ys[j]? = some v → ∃ z q, zs[j]? = some z ∧ TermAt K H v (z, q) ∧ Sz B q) → ∃ ts, TermsAt K H ys ts ∧ ts.map (fun t => t.1) = zs ∧ ∀ t ∈ ts, Sz B t.2
  | [], [], _, _ => ⟨[], ⟨rfl, fun i v t a => by cases a⟩, rfl, fun t m => by cases m⟩
  | [], _ :: _, l, _ => by cases l
  | _ :: _, [], l, _ => by cases l
  | y :: ys, z :: zs, l, h => by
    obtain ⟨ts, h1, h2, h3⟩ := terms_pick (ys := ys) (zs := zs) (by simpa using l) fun j v a => h (j + 1) v a
    obtain ⟨z', q, e, ht, sq⟩ := h 0 y rfl
    cases e
    refine ⟨(z, q) :: ts, ⟨by rw [List.length_cons, List.length_cons, h1.len], fun i v t a b => ?_⟩, by rw [List.map_cons, h2], fun t m => ?_⟩
    · cases i with
      | zero => cases a; cases b; exact ht
      | succ i => exact h1.at_ i v t a b
    · rcases List.mem_cons.mp m with rfl | m
      · exact sq
      · exact h3 t m
/-- rows of pairs over drawn spots -/
structure RowG (zs : List Spot) (ts : List Term) : Prop where
  nd : (ts.map fun t => t.1).Nodup
  g : ts[0]? = some (gr, 0)
  mem : ∀ t ∈ ts, t.1 ∈ zs
  sz : ∀ t ∈ ts, Sz (10 ^ 30) t.2
theorem rowg_len {zs : List Spot} {ts : List Term} (h : RowG zs ts) : ts.length ≤ zs.length := by
  have := nodup_le h.nd (bs := zs) fun z m => by
    obtain ⟨t, tm, rfl⟩ := List.mem_map.mp m
    exact h.mem t tm
  rwa [List.length_map] at this
theorem spb_of {zs : List Spot} (D : SpsD zs) : ∀ z ∈ zs, SpB z := fun z m => by
  obtain ⟨a, b, c, d⟩ := D.ok z m
  exact ⟨a, b, Nat.le_trans c (by decide), Nat.le_trans d (by decide)⟩
theorem rowg_good {zs : List Spot} {ts : List Term} (D : SpsD zs) (h : RowG zs ts) : GoodT ts := ⟨h.nd, h.g, fun t m => spb_of D _ (h.mem t m), fun t m => (h.sz t m).mono (by decide), by have := rowg_len h; have := D.len; omega⟩
/-- rows behind the first pair -/
structure TailG (zs : List Spot) (ts : List Term) : Prop where
  nd : (ts.map fun t => t.1).Nodup
  n : gr ∉ ts.map fun t => t.1
  mem : ∀ t ∈ ts, t.1 ∈ zs
  sz : ∀ t ∈ ts, Sz (10 ^ 30) t.2
theorem tail_row {zs : List Spot} {ts : List Term} (D : SpsD zs) (h : TailG zs ts) : RowG zs ((gr, 0) :: ts) := ⟨List.nodup_cons.mpr ⟨h.n, h.nd⟩, rfl, fun t m => by
  rcases List.mem_cons.mp m with rfl | m
  · exact List.mem_of_getElem? D.g
  · exact h.mem t m, fun t m => by
  rcases List.mem_cons.mp m with rfl | m
  · exact ⟨by decide, by decide⟩
  · exact h.sz t m⟩
theorem tail_sub {zs : List Spot} {ts us : List Term} (h : TailG zs ts) (s : us.Sublist ts) : TailG zs us := ⟨sub_nd s h.nd, fun m => h.n ((s.map _).subset m), fun t m => h.mem t (s.subset m), fun t m => h.sz t (s.subset m)⟩
theorem tail_perm {zs : List Spot} {ts us : List Term} (h : TailG zs ts) (s : us.Perm ts) : TailG zs us := ⟨(s.map _).nodup_iff.mpr h.nd, fun m => h.n ((s.map _).mem_iff.mp m), fun t m => h.mem t (s.mem_iff.mp m), fun t m => h.sz t (s.mem_iff.mp m)⟩
theorem row_tail {zs : List Spot} {ts : List Term} (h : RowG zs ts) : TailG zs (ts.drop 1) ∧ ts = (gr, 0) :: ts.drop 1 := by
  have e : ts = (gr, 0) :: ts.drop 1 := by
    cases ts with
    | nil => have := h.g; cases this
    | cons t r => have := h.g; cases this; rfl
  have nd := h.nd
  rw [e, List.map_cons, List.nodup_cons] at nd
  exact ⟨⟨nd.2, nd.1, fun t m => h.mem t (List.mem_of_mem_drop m), fun t m => h.sz t (List.mem_of_mem_drop m)⟩, e⟩
def SpL (H : Hp) (zs : List Spot) (q : Addr) : Prop := ∃ ss, H q = some (.lst ss) ∧ SpotsX H ss zs
theorem spl_kb {b q : Addr} {H H' : Hp} {zs : List Spot} (h : SpL H zs q) (k : Kb b H H') : SpL H' zs q := let ⟨ss, h1, h2⟩ := h; ⟨ss, k.at h1 (fun _ z => by cases z), spots_im h2 k.im⟩
def RowL (K : PySem.W.Frag) (H : Hp) (zs : List Spot) (q : Addr) (ts : List Term) : Prop := ∃ us, H q = some (.lst us) ∧ TermsAt K H us ts ∧ RowG zs ts
theorem rowl_kb {K : PySem.W.Frag} {b q : Addr} {H H' : Hp} {zs : List Spot} {ts : List Term} (h : RowL K H zs q ts) (k : Kb b H H') : RowL K H' zs q ts := let ⟨ss, h1, h2, h3⟩ := h; ⟨ss, k.at h1 (fun _ z => by cases z), terms_im h2 k.im, h3⟩
def TailL (K : PySem.W.Frag) (H : Hp) (zs : List Spot) (q : Addr) : Prop := ∃ us ts, H q = some (.lst us) ∧ TermsAt K H us ts ∧ TailG zs ts
theorem taill_kb {K : PySem.W.Frag} {b q : Addr} {H H' : Hp} {zs : List Spot} (h : TailL K H zs q) (k : Kb b H H') : TailL K H' zs q := let ⟨ss, ts, h1, h2, h3⟩ := h; ⟨ss, ts, k.at h1 (fun _ z => by cases z), terms_im h2 k.im, h3⟩
theorem termp_imp {K : PySem.W.Frag} {zs : List Spot} {B : Nat} : ImP fun j v H => ∃ z q, zs[j]? = some z ∧ TermAt K H v (z, q) ∧ Sz B q := fun j v H1 H2 im ⟨z, q, h1, h2, h3⟩ => ⟨z, q, h1, term_im h2 im, h3⟩
theorem tailg_of {zs : List Spot} {ts : List Term} (D : SpsD zs) (h : ts.map (fun t => t.1) = zs.drop 1) (s : ∀ t ∈ ts, Sz (10 ^ 30) t.2) : TailG zs ts := by
  have e : zs = gr :: zs.drop 1 := by
    have g := D.g
    cases zs with
    | nil => cases g
    | cons z r => cases g; rfl
  have nd := D.nd
  rw [e, List.nodup_cons] at nd
  exact ⟨h ▸ nd.2, h ▸ nd.1, fun t m => List.mem_of_mem_drop (h ▸ List.mem_map_of_mem (f := fun t : Term => t.1) m), s⟩
theorem row_first {K : PySem.W.Frag} {H : Hp} {zs : List Spot} {us : List V} {ts : List Term} (h : TermsAt K H us ts) (R : RowG zs ts) : TermsAt K H (us.take 1) [(gr, 0)] := by
  have := terms_take h 1
  rw [(row_tail R).2] at this
  exact this
/-- a case of strangers, whatever becomes of lists -/
def StrC0 (K : PySem.W.Frag) (ts : List Term) (H : Hp) (x : V) : Prop := ∃ t a b w dt oa ob, x = .ref t ∧ SqT K H t [a, b, w] ∧ AskT K H a ts oa ∧ AskT K H b ts ob ∧ AskT K H w ts none ∧ Dp K H w dt ∧ Shw dt ∧ ((oa = none ∧ w = a) ∨ ∃ p, oa = some p ∧ ob = none ∧ w = b)
def StrC (K : PySem.W.Frag) (ts : List Term) (H : Hp) (x : V) : Prop := ∀ H2, Im H H2 → StrC0 K ts H2 x
theorem strc_im {K : PySem.W.Frag} {ts : List Term} {H H' : Hp} {x : V} (h : StrC K ts H x) (m : Im H H') : StrC K ts H' x := fun H2 m2 => h H2 (m.tr m2)
theorem strc_1 {K : PySem.W.Frag} {ts : List Term} {H : Hp} {t : Addr} {a b : V} {z y : Spot} (ht : SqT K H t [a, b, a]) (ha : SpotX H a z) (hb : SpotX H b y) (nz : z ∉ ts.map fun t => t.1) (B : SpB z) : StrC K ts H (.ref t) := fun H2 m =>
  ⟨t, a, b, a, spotD z, none, _, rfl, sqt_im ht m, .inl ⟨z, spot_im ha m, lookT_none nz⟩, .inl ⟨y, spot_im hb m, rfl⟩, .inl ⟨z, spot_im ha m, lookT_none nz⟩, spot_dp (spot_im ha m), shw_spot B, .inl ⟨rfl, rfl⟩⟩
theorem strc_2 {K : PySem.W.Frag} {ts : List Term} {H : Hp} {t : Addr} {a b : V} {z y : Spot} {p : Rat} (ht : SqT K H t [b, a, a]) (ha : SpotX H a z) (hb : SpotX H b y) (nz : z ∉ ts.map fun t => t.1) (ly : lookT ts y = some p) (B : SpB z) : StrC K ts H (.ref t) := fun H2 m =>
  ⟨t, b, a, a, spotD z, _, none, rfl, sqt_im ht m, .inl ⟨y, spot_im hb m, ly⟩, .inl ⟨z, spot_im ha m, lookT_none nz⟩, .inl ⟨z, spot_im ha m, lookT_none nz⟩, spot_dp (spot_im ha m), shw_spot B, .inr ⟨p, rfl, rfl, rfl⟩⟩
theorem strc_3 {K : PySem.W.Frag} {ts : List Term} {H : Hp} {t : Addr} {a b : V} {y : Spot} (ht : SqT K H t [a, b, a]) (ha : Alike K H a) (hb : SpotX H b y) : StrC K ts H (.ref t) := fun H2 m => by
  obtain ⟨d, hd, nd, sd⟩ := alike_dp (alike_im ha m)
  exact ⟨t, a, b, a, d, none, _, rfl, sqt_im ht m, .inr ⟨d, hd, nd, rfl⟩, .inl ⟨y, spot_im hb m, rfl⟩, .inr ⟨d, hd, nd, rfl⟩, hd, sd, .inl ⟨rfl, rfl⟩⟩
section
variable {P : Program} {w : World} {K : PySem.W.Frag} {mg : Str → Option Value} {base : Heap}
variable {cE cS cX cN cP cW cG cZ : Addr}
theorem ok_law (T : Tp P K mg cE cS cX cN cP cW cG cZ)
    (c_World_init : CalC P w K mg base 4 "World" cW P_World_init (spInitB K cW cX))
    (c_l_bag_of : Cal P w K mg base 1 "_law_bag_of" P_l_bag_of [] (spBagOf K))
    (c_l_choice : Cal P w K mg base 2 "_law_choice" P_l_choice [] (spChoice K))
    (c_l_drawn_ratio : Cal P w K mg base 3 "_law_drawn_ratio" P_l_drawn_ratio [] (spRatD K))
    (c_l_equal_as_due : Cal P w K mg base 7 "_law_equal_as_due" P_l_equal_as_due [] (spEqDue K cW))
    (c_l_gaps_told_well : Cal P w K mg base 7 "_law_gaps_told_well" P_l_gaps_told_well [] (spTold K cW))
    (c_l_lookalikes : Cal P w K mg base 1 "_law_lookalikes" P_l_lookalikes [] (spAlikes K))
    (c_l_mixed_as_due : Cal P w K mg base 8 "_law_mixed_as_due" P_l_mixed_as_due [] (spMixDue K cW))
    (c_l_pick : Cal P w K mg base 1 "_law_pick" P_l_pick [] (spPick))
    (c_l_shuffled : Cal P w K mg base 2 "_law_shuffled" P_l_shuffled [] (spShuffledN K))
    (c_l_some : Cal P w K mg base 2 "_law_some" P_l_some [] (spSomeT))
    (c_l_some_spots : Cal P w K mg base 4 "_law_some_spots" P_l_some_spots [] (spSpotsD))
    (c_l_spots_known : Cal P w K mg base 3 "_law_spots_known" P_l_spots_known [] (spKnown))
    (c_l_stranger : Cal P w K mg base 3 "_law_stranger" P_l_stranger [] (spStrangerD))
    (c_l_strangers_refused : Cal P w K mg base 7 "_law_strangers_refused" P_l_strangers_refused [] (spStrange K cW))
    (c_l_told_well : Cal P w K mg base 5 "_law_told_well" P_l_told_well [] (spTold K cW))
    (c_l_wrong_rows_refused : Cal P w K mg base 6 "_law_wrong_rows_refused" P_l_wrong_rows_refused [] (spWrongRows K))
    {f : Addr} {fd : FuncData} {dvs : List V} (F : FunD K "law" "law" (defArgs s_law) (defBody s_law) (defScope s_law) dvs [] f fd) : FnG P w K mg base 9 f fd P_law (spLaw K) := by
  refine fng F sc_law (by walk_at "ulen") (fun cdv A outer s H vs Q E hr0 hg0 h => ?_)
  have hr : Rm 8 (A.deeper (envOfC "law" (defScope s_law) s.heap.objs.size f cdv)) := ⟨hr0, hg0⟩
  have nd : N_law.Nodup := sc_law.nd
  have po : PassesOwn (model P w) (cxOf (L2.CX P w) P w K mg base N_law "law" (defScope s_law) f cdv A outer s H E).A (cxOf (L2.CX P w) P w K mg base N_law "law" (defScope s_law) f cdv A outer s H E).env (cxOf (L2.CX P w) P w K mg base N_law "law" (defScope s_law) f cdv A outer s H E).xe := passes_of rfl
  obtain ⟨a, ns, rfl, hS, hl, hbits, k⟩ := h
  refine ⟨_, (pss_cons (ps_set (i := 1) nd rfl (Or.inr rfl) (pe_c (E := En) c_l_bag_of (hr.mono (by decide)) paN (pa_cons (pv 0) pa_nil)))
    (pss_cons (ps_set (i := 2) nd rfl (Or.inl rfl) (pe_c (E := En) c_l_some_spots (hr.mono (by decide)) paN (pa_cons (pv 1) (pa_cons (pe_c (E := En) c_l_pick (hr.mono (by decide)) paN (pa_cons (pv 1) (pa_cons pe_int pa_nil))) pa_nil))))
    (pss_cons (ps_set (i := 3) nd rfl (Or.inl rfl) (pe_op op_uAdd (pe_lst (pa_cons (pe_tup (pa_cons (pe_ix ix_seq (pv 2) pe_int (fun _ _ => rfl)) (pa_cons (pe_tup (pa_cons pe_int (pa_cons pe_int pa_nil))) pa_nil))) pa_nil)) (pe_lc (own := [("_law_spot", 4)]) (g := gName 4) (by rfl) nd (Zx.pi_lt (pe_slice sl_u (pv 2) (po_some pe_int) po_none)) (blkOk_by (own := [("_law_spot", 4)]) (N := N_law) (sc := defScope s_law) (by decide +kernel)) (fun s_ H_ C_ cl_ fp_ => pg_name (i := 4) nd rfl (Or.inl rfl)) (fun s_ H_ C_ cl_ fp_ => pts_nil) (fun s_ H_ C_ cl_ fp_ => (pe_tup (pa_cons (pv 4) (pa_cons (pe_c (E := En) c_l_drawn_ratio (hr.mono (by decide)) paN (pa_cons (pv 1) pa_nil)) pa_nil)))))))
    (pss_cons (ps_set (i := 5) nd rfl (Or.inl rfl) (pe_lst pa_nil))
    (pss_cons (ps_for po rfl (pi_list (pe_slice sl_u (pv 3) (po_some pe_int) po_none)) (pg_name (i := 6) nd rfl (Or.inl rfl))
    (pss_one (ps_expr (pe_bm PySem.F.plainAttrs_list PySem.F.slot_list_append PySem.F.type_list_append mt_append (pv 5) (pa_cons (pe_tup (pa_cons (pe_ix ix_seq (pv 6) pe_int (fun _ _ => rfl)) (pa_cons (pe_c (E := En) c_l_choice (hr.mono (by decide)) paN (pa_cons (pv 1) (pa_cons (pe_lst (pa_cons (pe_ix ix_seq (pv 6) pe_int (fun _ _ => rfl)) (pa_cons (pe_c (E := En) c_l_drawn_ratio (hr.mono (by decide)) paN (pa_cons (pv 1) pa_nil)) pa_nil))) pa_nil))) pa_nil))) pa_nil)))))
    (pss_cons (ps_set (i := 7) nd rfl (Or.inl rfl) (pe_c (E := En) c_l_pick (hr.mono (by decide)) paN (pa_cons (pv 1) (pa_cons pe_int pa_nil))))
    (pss_cons (ps_set (i := 8) nd rfl (Or.inl rfl) (pe_callTy call_uList (by rfl) T.list b_list (pa_cons (pv 3) pa_nil)))
    (pss_consJ (ps_if (PW.pt (pw_or (pt_cmpR (op_uEq hr.r.units) (pv 7) pe_int (nomark _)) (pw_or1 (pt_cmpR (op_uEq hr.r.units) (pv 7) pe_int (nomark _))))) (pss_one (ps_set (i := 5) nd rfl (Or.inl rfl) (pe_c (E := En) c_l_some (hr.mono (by decide)) paN (pa_cons (pv 1) (pa_cons (pv 5) pa_nil))))) pss_nil)
    (pss_consJ (ps_if (PW.pt (pw_or (pt_cmpR (op_uEq hr.r.units) (pv 7) pe_int (nomark _)) (pw_or1 (pt_cmpR (op_uEq hr.r.units) (pv 7) pe_int (nomark _))))) (pss_one (ps_set (i := 8) nd rfl (Or.inl rfl) (pe_op op_uAdd (pe_slice sl_u (pv 3) po_none (po_some pe_int)) (pe_c (E := En) c_l_some (hr.mono (by decide)) paN (pa_cons (pv 1) (pa_cons (pe_slice sl_u (pv 3) (po_some pe_int) po_none) pa_nil)))))) pss_nil)
    (pss_cons (ps_set (i := 5) nd rfl (Or.inl rfl) (pe_op op_uAdd (pe_slice sl_u (pv 3) po_none (po_some pe_int)) (pe_c (E := En) c_l_shuffled (hr.mono (by decide)) paN (pa_cons (pv 1) (pa_cons (pv 5) pa_nil)))))
    (pss_cons (ps_set (i := 9) nd rfl (Or.inl rfl) (pe_callTy call_uList (by rfl) T.list b_list (pa_cons (pv 8) pa_nil)))
    (pss_cons (ps_set (i := 10) nd rfl (Or.inl rfl) (pe_mkG (E := En) c_World_init (hr.mono (by decide)) paN (pa_cons (pv 9) pa_nil)))
    (pss_cons (ps_set (i := 11) nd rfl (Or.inl rfl) (pe_mkG (E := En) c_World_init (hr.mono (by decide)) paN (pa_cons (pe_callTy call_uTup (by rfl) T.tuple b_tuple (pa_cons (pv 5) pa_nil)) pa_nil)))
    (pss_cons (ps_if (PW.pt (pw_or (pt_cmpR (op_uNe hr.r.units) (pv 9) (pv 8) (nomark _)) (pw_or (pt_not (pt_val (pe_c (E := En) c_l_told_well (hr.mono (by decide)) paN (pa_cons (pv 10) (pa_cons (pv 8) pa_nil))))) (pw_or1 (pt_not (pt_val (pe_c (E := En) c_l_told_well (hr.mono (by decide)) paN (pa_cons (pv 11) (pa_cons (pv 5) pa_nil))))))))) (pss_one (ps_ret pe_bl)) pss_nil)
    (pss_cons (ps_asg (pe_tup (pa_cons (pe_c (E := En) c_l_stranger (hr.mono (by decide)) paN (pa_cons (pv 1) (pa_cons (pv 2) pa_nil))) (pa_cons (pe_tup (pa_cons pe_int (pa_cons pe_int pa_nil))) pa_nil))) (pg_sub (pv 9) pe_int set_list))
    (pss_cons (ps_expr (pe_bm PySem.F.plainAttrs_list PySem.F.slot_list_append PySem.F.type_list_append mt_append (pv 9) (pa_cons (pe_ix ix_seq (pv 9) pe_int (fun _ _ => rfl)) pa_nil)))
    (pss_cons (ps_if (PW.pt (pw_or (pt_not (pt_val (pe_c (E := En) c_l_mixed_as_due (hr.mono (by decide)) paN (pa_cons (pv 10) (pa_cons (pv 11) (pa_cons (pv 8) (pa_cons (pv 5) pa_nil))))))) (pw_or1 (pt_not (pt_val (pe_c (E := En) c_l_mixed_as_due (hr.mono (by decide)) paN (pa_cons (pv 11) (pa_cons (pv 10) (pa_cons (pv 5) (pa_cons (pv 8) pa_nil)))))))))) (pss_one (ps_ret pe_bl)) pss_nil)
    (pss_cons (ps_if (PW.pt (pw_or (pt_not (pt_val (pe_c (E := En) c_l_gaps_told_well (hr.mono (by decide)) paN (pa_cons (pv 10) (pa_cons (pv 8) pa_nil))))) (pw_or1 (pt_not (pt_val (pe_c (E := En) c_l_gaps_told_well (hr.mono (by decide)) paN (pa_cons (pv 11) (pa_cons (pv 5) pa_nil)))))))) (pss_one (ps_ret pe_bl)) pss_nil)
    (pss_cons (ps_set (i := 12) nd rfl (Or.inl rfl) (pe_c (E := En) c_l_stranger (hr.mono (by decide)) paN (pa_cons (pv 1) (pa_cons (pv 2) pa_nil))))
    (pss_cons (ps_set (i := 13) nd rfl (Or.inl rfl) (pe_tup (pa_cons (pe_ix ix_seq (pv 12) pe_int (fun _ _ => rfl)) (pa_cons (pe_op op_sub (pe_ix ix_seq (pv 12) pe_int (fun _ _ => rfl)) pe_int) (pa_cons (pe_op op_uAdd (pe_ix ix_seq (pv 12) pe_int (fun _ _ => rfl)) (pe_op op_pow pe_int pe_int)) pa_nil)))))
    (pss_cons (ps_set (i := 14) nd rfl (Or.inl rfl) (pe_ix ix_seq (pe_c (E := En) c_l_choice (hr.mono (by decide)) paN (pa_cons (pv 1) (pa_cons (pv 8) pa_nil))) pe_int (fun _ _ => rfl)))
    (pss_cons (ps_set (i := 15) nd rfl (Or.inl rfl) (pe_lst (pa_cons (pe_tup (pa_cons (pv 12) (pa_cons (pv 14) (pa_cons (pv 12) pa_nil)))) (pa_cons (pe_tup (pa_cons (pv 14) (pa_cons (pv 12) (pa_cons (pv 12) pa_nil)))) (pa_cons (pe_tup (pa_cons (pv 12) (pa_cons (pv 13) (pa_cons (pv 12) pa_nil)))) (pa_cons (pe_tup (pa_cons (pv 13) (pa_cons (pv 12) (pa_cons (pv 13) pa_nil)))) pa_nil))))))
    (pss_cons (ps_for po rfl (pi_list (pe_c (E := En) c_l_lookalikes (hr.mono (by decide)) paN (pa_cons (pv 14) pa_nil))) (pg_name (i := 16) nd rfl (Or.inl rfl))
    (pss_one (ps_expr (pe_bm PySem.F.plainAttrs_list PySem.F.slot_list_append PySem.F.type_list_append mt_append (pv 15) (pa_cons (pe_tup (pa_cons (pv 16) (pa_cons (pv 12) (pa_cons (pv 16) pa_nil)))) pa_nil)))))
    (pss_cons (ps_for po rfl (pi_list (pv 15)) (pg_name (i := 17) nd rfl (Or.inl rfl))
    (pss_one (ps_if (pt_not (pt_val (pe_c (E := En) c_l_strangers_refused (hr.mono (by decide)) paN (pa_cons (pv 10) (pa_cons (pe_ix ix_seq (pv 17) pe_int (fun _ _ => rfl)) (pa_cons (pe_ix ix_seq (pv 17) pe_int (fun _ _ => rfl)) (pa_cons (pe_ix ix_seq (pv 17) pe_int (fun _ _ => rfl)) pa_nil))))))) (pss_one (ps_ret pe_bl)) pss_nil)))
    (pss_cons (ps_if (PW.pt (pw_or (pt_not (pt_val (pe_c (E := En) c_l_equal_as_due (hr.mono (by decide)) paN (pa_cons (pv 1) (pa_cons (pv 10) (pa_cons (pv 8) pa_nil)))))) (pw_or1 (pt_not (pt_val (pe_c (E := En) c_l_equal_as_due (hr.mono (by decide)) paN (pa_cons (pv 1) (pa_cons (pv 11) (pa_cons (pv 5) pa_nil))))))))) (pss_one (ps_ret pe_bl)) pss_nil)
    (pss_cons (ps_if (PW.pt (pw_or (pt_not (pt_val (pe_c (E := En) c_l_wrong_rows_refused (hr.mono (by decide)) paN (pa_cons (pv 1) (pa_cons (pv 8) pa_nil))))) (pw_or1 (pt_not (pt_val (pe_c (E := En) c_l_spots_known (hr.mono (by decide)) paN (pa_cons (pv 1) (pa_cons (pv 2) pa_nil)))))))) (pss_one (ps_ret pe_bl)) pss_nil)
    (pss_one (ps_ret (pe_and (pe_c (E := En) c_l_told_well (hr.mono (by decide)) paN (pa_cons (pv 10) (pa_cons (pv 8) pa_nil))) (pe_one (pe_c (E := En) c_l_told_well (hr.mono (by decide)) paN (pa_cons (pv 11) (pa_cons (pv 5) pa_nil))))))))))))))))))))))))))))))))), ?_⟩
  walk_at "uk"
  walk_at "uz"
  refine ⟨a, ns, rfl, hS, hl, hbits, fun b H1 e1 hb1 => ?_⟩
  clear e1 hS
  walk_at "uz"
  refine ⟨b, 10, rfl, hb1, by decide, by decide, fun r H2 r0 r1 k2 => ?_⟩
  have hb2 := k2.b1
  clear k2 hb1
  obtain ⟨n, rfl⟩ := Int.eq_ofNat_of_zero_le r0
  walk_at "uz"
  refine ⟨b, n, rfl, hb2, by omega, fun sp ss zs H3 k3 hsp hss D => ?_⟩
  have hb3 := k3.b1
  clear k3 hb2
  have sl := hss.len
  have zl := D.len
  have z0 : 0 < zs.length := (List.getElem?_eq_some_iff.mp D.g).1
  obtain ⟨s0, hs0⟩ : ∃ x, ss[0]? = some x := ⟨_, List.getElem?_eq_getElem (by omega)⟩
  have hsg := hss.at_ 0 s0 gr hs0 D.g
  have kr := Kb.refl hb3
  walk_at "uz"
  refine s_lstE ?_
  walk_at "uz"
  refine s_tupE ?_
  walk_at "uz"
  refine s_ixL (.of hsp) (atI_nat (j := 0) hs0) ?_
  walk_at "uz"
  refine s_tupE ?_
  walk_at "uz"
  refine s_szN (Nat.le_of_ble_eq_true rfl) fun t1 n1 => s_nw n1 fun H4 e4 f4 => ?_
  walk_at "uz"
  refine s_szN (Nat.le_of_ble_eq_true rfl) fun t2 n2 => s_nw n2 fun H5 e5 f5 => ?_
  walk_at "uz"
  refine s_szN (Nat.le_of_ble_eq_true rfl) fun l3 n3 => s_nw n3 fun H6 e6 f6 => ?_
  have e36 := e4.tr (e5.tr e6)
  have tg6 : TermAt K H6 (.ref t2) (gr, 0) := ⟨t2, s0, .ref t1, rfl, .of (e6 _ _ f5), spot_im hsg e36.im, ⟨t1, rfl, .of (e6 _ _ (e5 _ _ f4))⟩⟩
  walk_at "uz"
  refine s_slL (.of (e36 _ _ hsp)) fun q4 H7 e7 f7 => ?_
  rw [show (1 : Int) = ((1 : Nat) : Int) from rfl, cutV_from _ _ (by omega)] at f7
  have e37 := e36.tr e7
  have k37 := kb_e kr e37
  have hss7 := spots_im hss e37.im
  have dl7 : (ss.drop 1).length = (zs.drop 1).length := by rw [List.length_drop, List.length_drop, sl]
  refine lcCB k37.b1 (.of f7) (by rw [List.length_drop]; omega) (fun j v H' => ∃ z q, (zs.drop 1)[j]? = some z ∧ TermAt K H' v (z, q) ∧ Sz (10 ^ 30) q) termp_imp ?_ ?_
  rotate_left
  · intro C i x H' hx kx hc
    obtain ⟨z, hz⟩ : ∃ z, (zs.drop 1)[i]? = some z := ⟨_, List.getElem?_eq_getElem (by rw [← dl7]; exact (List.getElem?_eq_some_iff.mp hx).1)⟩
    have sx : SpotX H7 x z := by
      rw [List.getElem?_drop] at hx hz
      exact hss7.at_ _ x z hx hz
    refine ⟨rfl, ?_⟩
    walk_at "uz"
    refine s_tupE ?_
    walk_at "uz"
    refine ⟨b, rfl, kx.b1, fun v q H8 k8 rq sq => ?_⟩
    walk_at "uz"
    refine s_szN (Nat.le_of_ble_eq_true rfl) fun t8 n8 => s_nw n8 fun H9 e9 f9 => ?_
    exact hc _ _ (kb_e k8 e9) ⟨z, q, hz, ⟨t8, x, v, rfl, .of f9, spot_im sx ((kx.tr k8).im.tr e9.im), rq_ex rq e9⟩, sq⟩
  intro D8 ys H8 k8 f8 _ yl h8
  obtain ⟨ts1, ht1, hz1, sz1⟩ := terms_pick (B := 10 ^ 30) (yl.trans dl7) h8
  have f68 := k8.at (e7 _ _ f6) fun _ z => by cases z
  refine s_catL (K := K) f68 f8 (by rw [yl, List.length_drop]; show 1 + _ ≤ 16777216; omega) fun pq H9 _ e9 f9 => ?_
  have k09 := kb_e (k37.tr k8) e9
  have P9 : RowL K H9 zs pq ((gr, 0) :: ts1) := ⟨_, f9, terms_im (terms_cat (terms_one (term_im tg6 (e7.im.tr k8.im))) ht1) e9.im, tail_row D (tailg_of D hz1 sz1)⟩
  have S9 : SpL H9 zs sp := spl_kb ⟨ss, hsp, hss⟩ k09
  have hb9 := k09.b1
  generalize (gr, 0) :: ts1 = ts at P9
  clear k09 f9 e9 f68 sz1 hz1 ht1 ts1 h8 yl f8 k8 dl7 hss7 k37 e37 f7 e7 tg6 e36 f6 e6 n3 f5 e5 n2 f4 e4 n1 kr hsg hs0 sl hss hsp hb3
  walk_at "uz"
  refine s_lstE ?_
  walk_at "uz"
  refine s_szN (Nat.zero_le _) fun oq n10 => s_nw n10 fun H10 e10 f10 => ?_
  obtain ⟨us, hp9, ht9, R⟩ := id P9
  have ul := ht9.len
  have tl := rowg_len R
  have t0 : 0 < ts.length := (List.getElem?_eq_some_iff.mp R.g).1
  walk_at "uz"
  refine s_slL (.of (e10 _ _ hp9)) fun q11 H11 e11 f11 => ?_
  rw [show (1 : Int) = ((1 : Nat) : Int) from rfl, cutV_from _ _ (by omega)] at f11
  have e911 := e10.tr e11
  have htd := terms_drop (terms_im ht9 e911.im) 1
  walk_at "uz"
  refine loopL (xs := us.drop 1) (fun i σ' H' => Kb b H9 H' ∧ Im H11 H' ∧ H' q11 = some (.lst (us.drop 1)) ∧ i ≤ (ts.drop 1).length ∧ ∃ acc os o6, H' oq = some (.lst acc) ∧ TermsAt K H' acc os ∧ os.map (fun t => t.1) = ((ts.drop 1).take i).map (fun t => t.1) ∧ (∀ t ∈ os, Sz (10 ^ 30) t.2) ∧ σ' = [some (.ref a), some (.ref b), some (.ref sp), some (.ref pq), none, some (.ref oq), o6, none, none, none, none, none, none, none, none, none, none, none]) ⟨kb_e (Kb.refl hb9) e911, im_refl _, f11, Nat.zero_le _, [], [], none, e11 _ _ f10, ⟨rfl, fun i v t a => by cases a⟩, rfl, (fun t m => by cases m), rfl⟩ (fun i σ' H' h => .of h.2.2.1) ?_ ?_
  rotate_left
  · rintro i x σ' H12 hx ⟨k12, i12, g12, il, acc, os, o6, f12, ta, of, osz, rfl⟩
    have xl := (List.getElem?_eq_some_iff.mp hx).1
    rw [List.length_drop] at xl
    obtain ⟨t, hti, tm, xq, sa, fa, rfl, hxq0, hsa0, hfa0⟩ := term_of htd hx
    have hxq := sqt_im hxq0 i12
    have nq : q11 ≠ oq := fun z => by rw [z, e11 _ _ f10] at f11; have := congrArg List.length (HO.lst.inj (Option.some.inj f11)); rw [List.length_drop] at this; simp at this; omega
    have al : acc.length ≤ 10 := by
      have := congrArg List.length of
      rw [List.length_map, List.length_map, List.length_take] at this
      rw [ta.len, this]
      omega
    walk_at "uz"
    refine s_tyL (.of f12) ?_
    walk_at "uz"
    refine s_tupE ?_
    walk_at "uz"
    refine s_lstE ?_
    walk_at "uz"
    refine ⟨b, rfl, k12.b1, fun v q H13 k13 rq sq => ?_⟩
    walk_at "uz"
    refine s_szN (Nat.le_of_ble_eq_true rfl) fun l14 n14 => s_nw n14 fun H14 e14 f14 => ?_
    walk_at "uz"
    refine ⟨b, k13.b1.ex e14, .inl ⟨l14, _, rfl, .of f14, Nat.le_of_ble_eq_true rfl, Nat.le_of_ble_eq_true rfl, fun w H15 hw k15 => ?_⟩⟩
    have k1215 := (kb_e k13 e14).tr k15
    obtain ⟨rr, hrr, srr⟩ : ∃ rr, RQ K H15 w rr ∧ Sz (10 ^ 30) rr := by
      simp only [List.mem_cons, List.not_mem_nil, or_false] at hw
      rcases hw with rfl | rfl
      · exact ⟨t.2, rq_im hfa0 (i12.tr k1215.im), R.sz t (List.mem_of_mem_drop tm)⟩
      · exact ⟨q, rq_im rq (e14.im.tr k15.im), sq⟩
    walk_at "uz"
    refine s_szN (Nat.le_of_ble_eq_true rfl) fun t16 n16 => s_nw n16 fun H16 e16 f16 => ?_
    have k1216 := kb_e k1215 e16
    have f1216 := k1216.at f12 fun _ z => by cases z
    refine ⟨oq, acc, _, rfl, rfl, f1216, by show _ < 16777216; omega, ?_⟩
    refine s_mw f1216 fun H17 m17 i17 f17 => ?_
    have n9 : H9 oq = none := n10
    refine ⟨kb_mx n9 (k12.tr k1216) m17 f17, i12.tr (k1216.im.tr i17), m17 _ _ nq (k1216.at g12 fun _ z => by cases z), by rw [List.length_drop]; omega, _, os ++ [(t.1, rr)], _, f17, terms_app (terms_im ta (k1216.im.tr i17)) ⟨t16, sa, w, rfl, sqt_im (.of f16) i17, spot_im hsa0 (i12.tr (k1216.im.tr i17)), rq_im (rq_ex hrr e16) i17⟩, ?_, fun u m => ?_, rfl⟩
    · rw [List.map_append, of, List.take_add_one, hti, List.map_append]
      rfl
    · rcases List.mem_append.mp m with m | m
      · exact osz u m
      · rw [List.mem_singleton.mp m]; exact srr
  rintro σ' H12 ⟨k12, _, _, il, acc, os, o6, f12, ta, of, osz, rfl⟩
  rw [List.length_drop, ul, ← List.length_drop, List.take_length] at of
  have RT := row_tail R
  have O12 : TailL K H12 zs oq := ⟨acc, os, f12, ta, by rw [of]; exact RT.1.nd, by rw [of]; exact RT.1.n, fun t m => by
    have : t.1 ∈ (ts.drop 1).map fun t => t.1 := of ▸ List.mem_map_of_mem (f := fun t : Term => t.1) m
    obtain ⟨u, um, e⟩ := List.mem_map.mp this
    exact e ▸ RT.1.mem u um, osz⟩
  have P12 := rowl_kb P9 k12
  have S12 := spl_kb S9 k12
  have hb12 := k12.b1
  clear osz of ta f12 os acc il k12 htd e911 f11 e11 f10 e10 n10 ht9 hp9 S9 P9 ul RT
  walk_at "uz"
  refine ⟨b, 5, rfl, hb12, by decide, by decide, fun wy H13 wy0 wy1 k13 => ?_⟩
  have P13 := rowl_kb P12 k13
  have S13 := spl_kb S12 k13
  have O13 := taill_kb O12 k13
  have hb13 := k13.b1
  obtain ⟨us13, hp13, ht13, _⟩ := id P13
  clear P12 S12 O12 hb12 k13
  walk_at "uz"
  refine s_listL (.of hp13) fun mq n14 => s_nw n14 fun H14 e14 f14 => ?_
  have k14 := kb_e (Kb.refl hb13) e14
  have P14 := rowl_kb P13 k14
  have S14 := spl_kb S13 k14
  have O14 := taill_kb O13 k14
  have M14 : RowL K H14 zs mq ts := ⟨us13, f14, terms_im ht13 e14.im, R⟩
  have hb14 := k14.b1
  clear P13 S13 O13 hb13 k14 f14 e14 n14 hp13 ht13 us13
  walk_at "uj"
  refine s_seqJ (fun σ' H' => BagAt H' b ∧ SpL H' zs sp ∧ RowL K H' zs pq ts ∧ RowL K H' zs mq ts ∧ ∃ oq, TailL K H' zs oq ∧ σ' = [some (.ref a), some (.ref b), some (.ref sp), some (.ref pq), none, some (.ref oq), o6, some (.int wy), some (.ref mq), none, none, none, none, none, none, none, none, none]) ?_ (fun R' hR => ?_)
  rotate_left
  · have go : ∀ (Q' : VK) (E' : XK), (∀ q H', BagAt H' b → SpL H' zs sp → RowL K H' zs pq ts → RowL K H' zs mq ts → TailL K H' zs q → Q' (.ref q) H') → spSomeT [.ref b, .ref oq] H14 Q' E' := fun Q' E' kq => by
      obtain ⟨us, os, h1, h2, h3⟩ := O14
      have := h2.len
      have l3 := rowg_len (tail_row D h3)
      rw [List.length_cons] at l3
      refine ⟨b, oq, us, rfl, hb14, h1, by omega, fun q ws H' k' sb hq _ => ?_⟩
      obtain ⟨ys, hy1, hy2⟩ := terms_sub sb h2
      exact kq q H' k'.b1 (spl_kb S14 k') (rowl_kb P14 k') (rowl_kb M14 k') ⟨ws, ys, hq, terms_im hy1 k'.im, tail_sub h3 hy2⟩
    walk_at "uz"
    refine s_ite (fun c => ?_) (fun c => ?_)
    · walk_at "uz"
      refine go _ _ fun q H' a1 a2 a3 a4 a5 => ?_
      exact hR _ _ ⟨a1, a2, a3, a4, q, a5, rfl⟩
    · walk_at "uz"
      refine s_ite (fun c => ?_) (fun c => ?_)
      · walk_at "uz"
        refine go _ _ fun q H' a1 a2 a3 a4 a5 => ?_
        exact hR _ _ ⟨a1, a2, a3, a4, q, a5, rfl⟩
      · walk_at "uz"
        exact hR _ _ ⟨hb14, S14, P14, M14, oq, O14, rfl⟩
  clear P14 S14 O14 M14 hb14
  rintro σ' H15 ⟨hb15, S15, P15, M15, oq2, O15, rfl⟩
  walk_at "uj"
  refine s_seqJ (fun σ' H' => BagAt H' b ∧ SpL H' zs sp ∧ RowL K H' zs pq ts ∧ TailL K H' zs oq2 ∧ ∃ mq mts, RowL K H' zs mq mts ∧ σ' = [some (.ref a), some (.ref b), some (.ref sp), some (.ref pq), none, some (.ref oq2), o6, some (.int wy), some (.ref mq), none, none, none, none, none, none, none, none, none]) ?_ (fun R' hR => ?_)
  rotate_left
  · have go : ∀ (Q' : VK) (E' : L2.St → XK), (∀ q H' mts, BagAt H' b → SpL H' zs sp → RowL K H' zs pq ts → TailL K H' zs oq2 → RowL K H' zs q mts → Q' (.ref q) H') → tOp (uAdd K) (tSl (uSl K) (tVar 3) tNoPart (tPart (tC (V.int 1)))) (uCall spSomeT [] E' (tCons (tVar 1) (tCons (tSl (uSl K) (tVar 3) (tPart (tC (V.int 1))) tNoPart) tNil))) [some (.ref a), some (.ref b), some (.ref sp), some (.ref pq), none, some (.ref oq2), o6, some (.int wy), some (.ref mq), none, none, none, none, none, none, none, none, none] H15 Q' := fun Q' E' kq => by
      obtain ⟨us, h1, h2, h3⟩ := id P15
      have ul := h2.len
      walk_at "uz"
      refine s_slL (.of h1) fun q16 H16 e16 f16 => ?_
      rw [show (1 : Int) = ((1 : Nat) : Int) from rfl, cutV_to _ _ (by omega)] at f16
      walk_at "uz"
      refine s_slL (.of (e16 _ _ h1)) fun q17 H17 e17 f17 => ?_
      rw [show (1 : Int) = ((1 : Nat) : Int) from rfl, cutV_from _ _ (by omega)] at f17
      have e1517 := e16.tr e17
      walk_at "uz"
      refine ⟨b, q17, us.drop 1, rfl, hb15.ex e1517, f17, by rw [List.length_drop]; omega, fun q ws H18 k18 sb hq _ => ?_⟩
      have k1518 := (kb_e (Kb.refl hb15) e1517).tr k18
      obtain ⟨ys, hy1, hy2⟩ := terms_sub sb (terms_drop (terms_im h2 k1518.im) 1)
      have wl := sb.length_le
      rw [List.length_drop] at wl
      walk_at "uz"
      refine s_catL (K := K) (k18.at (e17 _ _ f16) fun _ z => by cases z) hq (by rw [List.length_take]; show _ ≤ 16777216; omega) fun q19 H19 _ e19 f19 => ?_
      have k1519 := kb_e k1518 e19
      exact kq q19 H19 _ k1519.b1 (spl_kb S15 k1519) (rowl_kb P15 k1519) (taill_kb O15 k1519) ⟨_, f19, terms_im (terms_cat (row_first (terms_im h2 k1518.im) h3) hy1) e19.im, tail_row D (tail_sub (row_tail h3).1 hy2)⟩
    walk_at "uz"
    refine s_ite (fun c => ?_) (fun c => ?_)
    · refine s_asg (go _ _ fun q H' mts a1 a2 a3 a4 a5 => ?_)
      walk_at "uz"
      exact hR _ _ ⟨a1, a2, a3, a4, q, _, a5, rfl⟩
    · walk_at "uz"
      refine s_ite (fun c => ?_) (fun c => ?_)
      · refine s_asg (go _ _ fun q H' mts a1 a2 a3 a4 a5 => ?_)
        walk_at "uz"
        exact hR _ _ ⟨a1, a2, a3, a4, q, _, a5, rfl⟩
      · walk_at "uz"
        exact hR _ _ ⟨hb15, S15, P15, O15, mq, ts, M15, rfl⟩
  clear P15 S15 O15 M15 hb15
  rintro σ' H20 ⟨hb20, S20, P20, O20, mq2, mts, M20, rfl⟩
  obtain ⟨us20, hp20, ht20, R20⟩ := id P20
  obtain ⟨ou, ots, ho20, hot20, G20⟩ := id O20
  have ul20 := ht20.len
  have ol20 := hot20.len
  have og20 := rowg_len (tail_row D G20)
  rw [List.length_cons] at og20
  walk_at "uz"
  refine s_slL (.of hp20) fun q21 H21 e21 f21 => ?_
  rw [show (1 : Int) = ((1 : Nat) : Int) from rfl, cutV_to _ _ (by omega)] at f21
  walk_at "uz"
  refine ⟨b, oq2, ou, rfl, hb20.ex e21, .of (e21 _ _ ho20), by omega, fun q22 ws H22 k22 pm f22 _ => ?_⟩
  have k2022 := (kb_e (Kb.refl hb20) e21).tr k22
  obtain ⟨ys, hy1, hy2⟩ := terms_perm pm (terms_im hot20 k2022.im)
  have wl := pm.length_eq
  walk_at "uz"
  refine s_catL (K := K) (k22.at f21 fun _ z => by cases z) f22 (by rw [List.length_take]; show _ ≤ 16777216; omega) fun oq3 H23 _ e23 f23 => ?_
  have k2023 := kb_e k2022 e23
  have O23 : RowL K H23 zs oq3 ((gr, 0) :: ys) := ⟨_, f23, terms_im (terms_cat (row_first (terms_im ht20 k2022.im) R20) hy1) e23.im, tail_row D (tail_perm G20 hy2)⟩
  generalize (gr, 0) :: ys = yts at O23
  have S23 := spl_kb S20 k2023
  have P23 := rowl_kb P20 k2023
  have M23 := rowl_kb M20 k2023
  have hb23 := k2023.b1
  clear S20 P20 M20 O20 hb20 k2023 f23 e23 wl hy1 hy2 ys k2022 f22 pm k22 f21 e21 hp20 ht20 R20 ho20 hot20 G20 ul20 ol20 og20
  obtain ⟨mu, hm23, hmt23, MR⟩ := id M23
  walk_at "uz"
  refine s_listL (.of hm23) fun rq n24 => s_nw n24 fun H24 e24 f24 => ?_
  walk_at "uz"
  refine s_mkB (.inl (.of f24)) (terms_im hmt23 e24.im) (rowg_good D MR) fun w1 H25 e25 W1 => ?_
  obtain ⟨yu, ho23, hot23, YR⟩ := id O23
  have e2325 := e24.tr e25
  walk_at "uz"
  refine s_tupOfL (.of (e2325 _ _ ho23)) fun t26 H26 e26 f26 => ?_
  walk_at "uz"
  refine s_mkB (.inr f26) (terms_im hot23 (e2325.tr e26).im) (rowg_good D YR) fun w2 H27 e27 W2 => ?_
  have e2527 := e26.tr e27
  have k2327 := kb_e (Kb.refl hb23) (e2325.tr e2527)
  replace W1 := wt_im W1 e2527.im
  have r27 := e2527 _ _ (e25 _ _ f24)
  have MG := rowg_good D MR
  have YG := rowg_good D YR
  have msz := MR.sz
  have ysz := YR.sz
  have mmem := MR.mem
  have ml := rowg_len MR
  have yl := rowg_len YR
  have mg0 : 0 < mts.length := (List.getElem?_eq_some_iff.mp MG.g).1
  have mul := hmt23.len
  have mt27 : TermsAt K H27 mu mts := terms_im hmt23 (e2325.tr e2527).im
  have mlay : SeqAt.shaped (.list (mts.map termD)) = true := lay_sh (n := 3) (lay_lst fun x hx => by
    obtain ⟨t, tm, rfl⟩ := List.mem_map.mp hx
    exact lay_term (MG.ok t tm).ok) (by decide)
  have MA : ∀ {H' : Hp}, Kb b H23 H' → H' mq2 = some (.lst mu) ∧ TermsAt K H' mu mts := fun {H'} k' => ⟨k'.at hm23 (fun _ z => by cases z), terms_im hmt23 k'.im⟩
  have YA : ∀ {H' : Hp}, Kb b H23 H' → H' oq3 = some (.lst yu) ∧ TermsAt K H' yu yts := fun {H'} k' => ⟨k'.at ho23 (fun _ z => by cases z), terms_im hot23 k'.im⟩
  obtain ⟨ss9, hs23, hss23⟩ := S23
  have sl9 := hss23.len
  have SA : ∀ {H' : Hp}, Kb b H23 H' → H' sp = some (.lst ss9) ∧ SpotsX H' ss9 zs := fun {H'} k' => ⟨k'.at hs23 (fun _ z => by cases z), spots_im hss23 k'.im⟩
  clear P23 e2325 e2527 e27 f26 e26 e25 f24 e24 hm23 hmt23 ho23 hot23 M23 O23 hs23 hss23 MR YR
  walk_at "uz"
  refine ne_same (d := .list (mts.map termD)) (.lst (.of r27) (terms_dpa mt27)) (.lst (.of (MA k2327).1) (terms_dpa mt27)) mlay ?_
  walk_at "uz"
  refine ⟨.ref w1, mq2, mu, mts, rfl, W1, MG, (MA k2327).1, mt27, fun H28 e28 => ?_⟩
  have k28 := kb_e k2327 e28
  walk_at "uz"
  refine ⟨.ref w2, oq3, yu, yts, rfl, wt_im W2 e28.im, YG, (YA k28).1, (YA k28).2, fun H29 e29 => ?_⟩
  have k29 := kb_e k28 e29
  replace W1 := wt_im W1 (e28.tr e29).im
  replace W2 := wt_im W2 (e28.tr e29).im
  replace r27 := (e28.tr e29) _ _ r27
  clear k28 e29 e28 k2327 mt27
  walk_at "uz"
  refine s_tupE ?_
  walk_at "uz"
  refine ⟨b, sp, ss9, zs, rfl, k29.b1, (SA k29).1, (SA k29).2, z0, zl, spb_of D, fun v30 z30 H30 k30 _ _ _ _ _ _ => ?_⟩
  walk_at "uz"
  refine s_tupE ?_
  walk_at "uz"
  refine s_szN (Nat.le_of_ble_eq_true rfl) fun t31 n31 => s_nw n31 fun H31 e31 f31 => ?_
  walk_at "uz"
  refine s_szN (Nat.le_of_ble_eq_true rfl) fun t32 n32 => s_nw n32 fun H32 e32 f32 => ?_
  have k2932 := kb_e (kb_e k30 e31) e32
  have r32 := k2932.at r27 fun _ z => by cases z
  walk_at "uz"
  refine ⟨rq, mu, 0, 0, rfl, rfl, r32, by unfold ixN; rw [if_pos (by decide), if_pos (by omega)]; rfl, ?_⟩
  refine s_mw r32 fun H33 m33 i33 f33 => ?_
  have k33 := kb_mx n24 (k29.tr k2932) m33 f33
  have at0 : (mu.set 0 (.ref t32))[0]? = some (.ref t32) := by rw [List.getElem?_set_self (by omega)]
  walk_at "uz"
  refine s_tyL (.of f33) ?_
  walk_at "uz"
  refine s_ixL (.of f33) (atI_nat (j := 0) at0) ?_
  walk_at "uz"
  refine s_app f33 (by rw [List.length_set]; show _ < 16777216; omega) ?_
  refine s_mw f33 fun H34 m34 i34 f34 => ?_
  have k34 := kb_mx n24 k33 m34 f34
  replace W1 := wt_im W1 (k2932.im.tr (i33.tr i34))
  replace W2 := wt_im W2 (k2932.im.tr (i33.tr i34))
  have b34 := k34.b1
  clear f34 m34 i34 f33 m33 i33 k33 at0 r32 k2932 f32 f31 n32 n31 e31 e32 k30 k29 r27
  walk_at "uz"
  refine ⟨.ref w1, .ref w2, mq2, oq3, mu, yu, mts, yts, rfl, W1, W2, MG, YG, (MA k34).1, (MA k34).2, (YA k34).1, (YA k34).2, fun H35 e35 => ?_⟩
  have k35 := kb_e k34 e35
  walk_at "uz"
  refine ⟨.ref w2, .ref w1, oq3, mq2, yu, mu, yts, mts, rfl, wt_im W2 e35.im, wt_im W1 e35.im, YG, MG, (YA k35).1, (YA k35).2, (MA k35).1, (MA k35).2, fun H36 e36 => ?_⟩
  have k36 := kb_e k35 e36
  have e3436 := e35.tr e36
  walk_at "uz"
  refine ⟨.ref w1, mq2, mu, mts, rfl, wt_im W1 e3436.im, MG, (MA k36).1, (MA k36).2, fun H37 e37 => ?_⟩
  have k37 := kb_e k36 e37
  have e3437 := e3436.tr e37
  walk_at "uz"
  refine ⟨.ref w2, oq3, yu, yts, rfl, wt_im W2 e3437.im, YG, (YA k37).1, (YA k37).2, fun H38 e38 => ?_⟩
  have k38 := kb_e k37 e38
  have e3438 := e3437.tr e38
  replace W1 := wt_im W1 e3438.im
  replace W2 := wt_im W2 e3438.im
  clear e3438 e38 k37 e3437 e37 k36 e3436 e36 k35 e35 k34 b34
  walk_at "uz"
  refine ⟨b, sp, ss9, zs, rfl, k38.b1, (SA k38).1, (SA k38).2, z0, zl, spb_of D, fun v39 z39 H39 k39 x39 nz39 zok39 zl39 zi39 zj39 => ?_⟩
  obtain ⟨sq39, rfl, hsq39⟩ := id x39
  have hq39 : SqT K H39 sq39 (vS z39) := .of hsq39
  have B39 : SpB z39 := ⟨zok39, zl39, Nat.le_trans zi39 (by decide), Nat.le_trans zj39 (by decide)⟩
  have notm : ∀ {z : Spot}, z ∉ zs → z ∉ mts.map fun t => t.1 := fun {z} n m => by
    obtain ⟨t, tm, rfl⟩ := List.mem_map.mp m
    exact n (mmem t tm)
  walk_at "uz"
  refine s_tupE ?_
  walk_at "uz"
  refine s_szN (Nat.le_of_ble_eq_true rfl) fun t40 n40 => s_nw n40 fun H40 e40 f40 => ?_
  have x40 : SpotX H40 (.ref t40) (z39.1, z39.2.1 - 1, z39.2.2 + 10 ^ 15) := ⟨t40, rfl, f40⟩
  have B40 : SpB (z39.1, z39.2.1 - 1, z39.2.2 + 10 ^ 15) := ⟨zok39, zl39, by show (z39.2.1 - 1).natAbs ≤ _; omega, by show (z39.2.2 + 10 ^ 15).natAbs ≤ _; omega⟩
  have nz40 : ((z39.1, z39.2.1 - 1, z39.2.2 + 10 ^ 15) : Spot) ∉ zs := fun m => by
    have : (z39.2.2 + 10 ^ 15).natAbs ≤ 2 * 10 ^ 14 := (D.ok _ m).2.2.2
    omega
  generalize ((z39.1, z39.2.1 - 1, z39.2.2 + 10 ^ 15) : Spot) = z40 at x40 B40 nz40
  have k40 := kb_e (k38.tr k39) e40
  walk_at "uz"
  refine ⟨b, k40.b1, .inl ⟨mq2, mu, rfl, .of (MA k40).1, by omega, by omega, fun x H41 hx k41 => ?_⟩⟩
  obtain ⟨j41, hj41⟩ := List.mem_iff_getElem?.mp hx
  have k041 := k40.tr k41
  obtain ⟨t41, _, tm41, xq41, kv, _, rfl, hxq41, hkv, _⟩ := term_of (MA k041).2 hj41
  have lk41 := lookT_at MG.nd tm41
  walk_at "uz"
  refine s_lstE ?_
  walk_at "uz"
  refine s_tupE ?_
  walk_at "uz"
  refine s_szN (Nat.le_of_ble_eq_true rfl) fun c1 m1 => s_nw m1 fun H42 e42 f42 => ?_
  walk_at "uz"
  refine s_tupE ?_
  walk_at "uz"
  refine s_szN (Nat.le_of_ble_eq_true rfl) fun c2 m2 => s_nw m2 fun H43 e43 f43 => ?_
  walk_at "uz"
  refine s_tupE ?_
  walk_at "uz"
  refine s_szN (Nat.le_of_ble_eq_true rfl) fun c3 m3 => s_nw m3 fun H44 e44 f44 => ?_
  walk_at "uz"
  refine s_tupE ?_
  walk_at "uz"
  refine s_szN (Nat.le_of_ble_eq_true rfl) fun c4 m4 => s_nw m4 fun H45 e45 f45 => ?_
  walk_at "uz"
  refine s_szN (Nat.le_of_ble_eq_true rfl) fun cq m5 => s_nw m5 fun H46 e46 f46 => ?_
  have e4146 := e42.tr (e43.tr (e44.tr (e45.tr e46)))
  have k046 := kb_e k041 e4146
  have i3946 : Im H39 H46 := e40.im.tr (k41.im.tr e4146.im)
  have i4046 : Im H40 H46 := k41.im.tr e4146.im
  have x46 := spot_im x39 i3946
  have y46 := spot_im x40 i4046
  have kv46 := spot_im hkv e4146.im
  have all46 : ∀ x ∈ [V.ref c1, .ref c2, .ref c3, .ref c4], StrC K mts H46 x := fun x m => by
    simp only [List.mem_cons, List.not_mem_nil, or_false] at m
    rcases m with rfl | rfl | rfl | rfl
    · exact strc_1 (.of (e46 _ _ (e45 _ _ (e44 _ _ (e43 _ _ f42))))) x46 kv46 (notm nz39) B39
    · exact strc_2 (.of (e46 _ _ (e45 _ _ (e44 _ _ f43)))) x46 kv46 (notm nz39) lk41 B39
    · exact strc_1 (.of (e46 _ _ (e45 _ _ f44))) x46 y46 (notm nz39) B39
    · exact strc_1 (.of (e46 _ _ f45)) y46 x46 (notm nz40) B40
  replace W1 := wt_im W1 (k39.im.tr i3946)
  replace W2 := wt_im W2 (k39.im.tr i3946)
  have ncq := kb_none (k041.tr (kb_e (Kb.refl k041.b1) (e42.tr (e43.tr (e44.tr e45))))) m5
  clear f45 f44 f43 f42 e42 e43 e44 e45 e46 m1 m2 m3 m4 m5 e4146 i3946 i4046 hkv hxq41 k041 k41 k40 x40 e40 f40 n40 k39 k38 x39 hsq39 hq39
  walk_at "uz"
  refine ⟨kv, t41.1, rfl, kv46, MG.ok t41 tm41, fun q47 us47 H47 e47 n47 f47 l47 a47 => ?_⟩
  have nqc : q47 ≠ cq := fun z => by rw [z, f46] at n47; cases n47
  have k047 := kb_e k046 e47
  walk_at "uz"
  refine loopL (xs := us47) (fun i σ' H' => Kb b H23 H' ∧ Im H47 H' ∧ H' q47 = some (.lst us47) ∧ ∃ acc o16, H' cq = some (.lst acc) ∧ acc.length ≤ 4 + i ∧ (∀ x ∈ acc, StrC K mts H' x) ∧ σ' = [some (.ref a), some (.ref b), some (.ref sp), some (.ref pq), none, some (.ref oq3), o6, some (.int wy), some (.ref mq2), some (.ref rq), some (.ref w1), some (.ref w2), some (.ref sq39), some (.ref t40), some kv, some (.ref cq), o16, none]) ⟨k047, im_refl _, f47, _, none, e47 _ _ f46, Nat.le_refl _, (fun x m => strc_im (all46 x m) e47.im), rfl⟩ (fun i σ' H' h => .of h.2.2.1) ?_ ?_
  rotate_left
  · rintro i x σ' H48 hx ⟨k48, i48, g48, acc, o16, f48, l48, all48, rfl⟩
    have xl := (List.getElem?_eq_some_iff.mp hx).1
    have ax := alike_im (a47 x (List.mem_of_getElem? hx)) i48
    walk_at "uz"
    refine s_tyL (.of f48) ?_
    walk_at "uz"
    refine s_tupE ?_
    walk_at "uz"
    refine s_szN (Nat.le_of_ble_eq_true rfl) fun t49 n49 => s_nw n49 fun H49 e49 f49 => ?_
    refine ⟨cq, acc, _, rfl, rfl, e49 _ _ f48, by show _ < 16777216; omega, ?_⟩
    refine s_mw (e49 _ _ f48) fun H50 m50 i50 f50 => ?_
    refine ⟨kb_mx ncq (kb_e k48 e49) m50 f50, i48.tr (e49.im.tr i50), m50 _ _ nqc (e49 _ _ g48), _, _, f50, by rw [List.length_append]; show _ + 1 ≤ _; omega, fun y my => ?_, rfl⟩
    rcases List.mem_append.mp my with my | my
    · exact strc_im (all48 y my) (e49.im.tr i50)
    · rw [List.mem_singleton.mp my]
      exact strc_im (strc_3 (.of f49) (alike_im ax e49.im) (spot_im x46 (e47.im.tr (i48.tr e49.im)))) i50
  rintro σ' H48 ⟨k48, i48, _, acc, o16, f48, l48, all48, rfl⟩
  replace W1 := wt_im W1 (e47.im.tr i48)
  replace W2 := wt_im W2 (e47.im.tr i48)
  clear i48 k047 f47 a47 e47 x46 y46 kv46 all46 k046 f46
  walk_at "uz"
  refine loopL (xs := acc) (fun i σ' H' => Ex H48 H' ∧ ∃ o17, σ' = [some (.ref a), some (.ref b), some (.ref sp), some (.ref pq), none, some (.ref oq3), o6, some (.int wy), some (.ref mq2), some (.ref rq), some (.ref w1), some (.ref w2), some (.ref sq39), some (.ref t40), some kv, some (.ref cq), o16, o17]) ⟨exR _, none, rfl⟩ (fun i σ' H' h => .of (h.1 _ _ f48)) ?_ ?_
  rotate_left
  · rintro i x σ' H49 hx ⟨e49, o17, rfl⟩
    obtain ⟨t, a', b', w', dt, oa, ob, rfl, hsq, q1, q2, q3, q4, q5, q6⟩ := all48 x (List.mem_of_getElem? hx) H49 e49.im
    walk_at "uz"
    refine ⟨.ref w1, a', b', w', dt, mts, oa, ob, rfl, wt_im W1 e49.im, MG, q1, q2, q3, q4, q5, q6, fun H50 e50 => ?_⟩
    walk_at "uz"
    exact ⟨e49.tr e50, _, rfl⟩
  rintro σ' H49 ⟨e49, o17, rfl⟩
  have k49 := kb_e k48 e49
  replace W1 := wt_im W1 e49.im
  replace W2 := wt_im W2 e49.im
  clear e49 k48 all48 f48
  walk_at "uz"
  refine ⟨b, .ref w1, mq2, mu, mts, rfl, k49.b1, W1, MG, msz, by omega, (MA k49).1, (MA k49).2, fun H50 k50 => ?_⟩
  have k050 := k49.tr k50
  walk_at "uz"
  refine ⟨b, .ref w2, oq3, yu, yts, rfl, k50.b1, wt_im W2 k50.im, YG, ysz, by omega, (YA k050).1, (YA k050).2, fun H51 k51 => ?_⟩
  have k051 := k050.tr k51
  walk_at "uz"
  refine ⟨b, mq2, mu, mts, rfl, k51.b1, (MA k051).1, (MA k051).2, MG, msz, by omega, fun H52 k52 => ?_⟩
  have k052 := k051.tr k52
  walk_at "uz"
  refine ⟨b, sp, ss9, zs, rfl, k52.b1, (SA k052).1, (SA k052).2, D, fun H53 k53 => ?_⟩
  have k053 := k052.tr k53
  have k4953 := k50.tr (k51.tr (k52.tr k53))
  walk_at "uz"
  refine ⟨.ref w1, mq2, mu, mts, rfl, wt_im W1 k4953.im, MG, (MA k053).1, (MA k053).2, fun H54 e54 => ?_⟩
  have k054 := kb_e k053 e54
  walk_at "uz"
  refine ⟨.ref w2, oq3, yu, yts, rfl, wt_im W2 (k4953.im.tr e54.im), YG, (YA k054).1, (YA k054).2, fun H55 e55 => ?_⟩
  exact k _
end

end Lw
set_option Elab.async false
set_option pp.maxSteps 500
set_option linter.all false
set_option maxRecDepth 100000
set_option maxHeartbeats 4000000
namespace Hd
open PySem PySem.Spec PyProof.Rows L2 He Uv
theorem x_NoSpot {K : PySem.W.Frag} {h : Heap} {mg : Str → Option Value} (X : K.In h) (G : h.Ns mainGlobals mg) (c : Hk.SaysO fb fn xs K) : Xc.Txt L.prog K mg "NoSpot" ["spot"] (ga K "NoSpot") :=
  Hk.x_ok X G (c.fact 23 (f := Hk.xB1 "NoSpot" ["spot"])) (c.fact 24 (f := Hk.xB2 (PySem.Challenge.pw_ellwarden_k26_worlds.main.file) "NoSpot")) (d := ⟨"NoSpot", defArgs Lw.s_NoSpot_init, defBody Lw.s_NoSpot_init, defScope Lw.s_NoSpot_init⟩) (c.xi 0) rfl rfl rfl (.cons "spot" _ _ _ _ .nil) rfl rfl (fun _ _ _ _ _ _ _ us hu => match us, hu with | [_, _], _ => rfl)
    ⟨rfl, rfl, rfl, by decide +kernel, rfl, by decide +kernel, rfl, rfl⟩ rfl (by decide +kernel) (by decide +kernel)
theorem x_BadWorld {K : PySem.W.Frag} {h : Heap} {mg : Str → Option Value} (X : K.In h) (G : h.Ns mainGlobals mg) (c : Hk.SaysO fb fn xs K) : Xc.Txt L.prog K mg "BadWorld" ["place"] (ga K "BadWorld") :=
  Hk.x_ok X G (c.fact 26 (f := Hk.xB1 "BadWorld" ["place"])) (c.fact 27 (f := Hk.xB2 (PySem.Challenge.pw_ellwarden_k26_worlds.main.file) "BadWorld")) (d := ⟨"BadWorld", defArgs Lw.s_BadWorld_init, defBody Lw.s_BadWorld_init, defScope Lw.s_BadWorld_init⟩) (c.xi 1) rfl rfl rfl (.cons "place" _ _ _ _ .nil) rfl rfl (fun _ _ _ _ _ _ _ us hu => match us, hu with | [_, _], _ => rfl)
    ⟨rfl, rfl, rfl, by decide +kernel, rfl, by decide +kernel, rfl, rfl⟩ rfl (by decide +kernel) (by decide +kernel)
theorem x_Nought {K : PySem.W.Frag} {h : Heap} {mg : Str → Option Value} (X : K.In h) (G : h.Ns mainGlobals mg) (c : Hk.SaysO fb fn xs K) : Xc.Txt L.prog K mg "Nought" ["number"] (ga K "Nought") :=
  Hk.x_ok X G (c.fact 29 (f := Hk.xB1 "Nought" ["number"])) (c.fact 30 (f := Hk.xB2 (PySem.Challenge.pw_ellwarden_k26_worlds.main.file) "Nought")) (d := ⟨"Nought", defArgs Lw.s_Nought_init, defBody Lw.s_Nought_init, defScope Lw.s_Nought_init⟩) (c.xi 2) rfl rfl rfl (.cons "number" _ _ _ _ .nil) rfl rfl (fun _ _ _ _ _ _ _ us hu => match us, hu with | [_, _], _ => rfl)
    ⟨rfl, rfl, rfl, by decide +kernel, rfl, by decide +kernel, rfl, rfl⟩ rfl (by decide +kernel) (by decide +kernel)
theorem tp {K : PySem.W.Frag} {h : Heap} {mg : Str → Option Value} (X : K.In h) (G : h.Ns mainGlobals mg) (c : Hk.SaysO fb fn xs K) : Lw.Tp L.prog K mg (ga K "EllError") (ga K "NoSpot") (ga K "BadWorld") (ga K "Nought") (ga K "BadSpot") (ga K "World") (ga K "GROUND") (ga K "ZERO") :=
  { isinstance := free_ok X G (c.fact 0 (f := Hk.fa (.free "isinstance"))), len := free_ok X G (c.fact 1 (f := Hk.fa (.free "len"))), abs := free_ok X G (c.fact 2 (f := Hk.fa (.free "abs"))), repr := free_ok X G (c.fact 3 (f := Hk.fa (.free "repr"))), max := free_ok X G (c.fact 4 (f := Hk.fa (.free "max"))), min := free_ok X G (c.fact 5 (f := Hk.fa (.free "min"))), sum := free_ok X G (c.fact 6 (f := Hk.fa (.free "sum"))), all := free_ok X G (c.fact 7 (f := Hk.fa (.free "all"))), any := free_ok X G (c.fact 8 (f := Hk.fa (.free "any"))), sorted := free_ok X G (c.fact 9 (f := Hk.fa (.free "sorted"))), int := free_ok X G (c.fact 10 (f := Hk.fa (.free "int"))), str := free_ok X G (c.fact 11 (f := Hk.fa (.free "str"))), list := free_ok X G (c.fact 12 (f := Hk.fa (.free "list"))), tuple := free_ok X G (c.fact 13 (f := Hk.fa (.free "tuple"))), bool := free_ok X G (c.fact 14 (f := Hk.fa (.free "bool"))), dict := free_ok X G (c.fact 15 (f := Hk.fa (.free "dict"))), range := free_ok X G (c.fact 16 (f := Hk.fa (.free "range"))), enumerate := free_ok X G (c.fact 17 (f := Hk.fa (.free "enumerate"))), zip := free_ok X G (c.fact 18 (f := Hk.fa (.free "zip"))), iter := free_ok X G (c.fact 19 (f := Hk.fa (.free "iter"))), reversed := free_ok X G (c.fact 20 (f := Hk.fa (.free "reversed"))), super := free_ok X G (c.fact 21 (f := Hk.fa (.free "super"))), ValueError := free_ok X G (c.fact 22 (f := Hk.fa (.free "ValueError"))), g_gcd := Hk.gloV_ok X G (c.fact 32 (f := Hk.gloV "gcd" (.builtin "math.gcd"))), x_NoSpot := x_NoSpot X G c, x_BadWorld := x_BadWorld X G c, x_Nought := x_Nought X G c, g_NoSpot := (x_NoSpot X G c).gC, g_BadWorld := (x_BadWorld X G c).gC, g_Nought := (x_Nought X G c).gC, g_BadSpot := glo_ok X G (c.fact 34 (f := Hk.fa (.glo "BadSpot"))), g_EllError := glo_ok X G (c.fact 33 (f := Hk.fa (.glo "EllError"))), g_World := glo_ok X G (c.fact 103 (f := Hk.fa (.glo "World"))), g_GROUND := glo_ok X G (c.fact 35 (f := Hk.fa (.glo "GROUND"))), g_ZERO := glo_ok X G (c.fact 36 (f := Hk.fa (.glo "ZERO"))), tG := Hk.tupB_ok (c.fact 37 (f := Hk.tupB "GROUND" (Lw.vS Lw.gr))), tZ := Hk.tupB_ok (c.fact 38 (f := Hk.tupB "ZERO" [.int 0, .int 1])), mSE := exm_ok (c.fact 45 (f := Hk.fa (.exm "NoSpot" "EllError" true))), oSV := of_decide_eq_true (c.fact 46 (f := Hk.kitB' "NoSpot" (fun _ => .type "ValueError") true)), oSS := of_decide_eq_true (c.fact 47 (f := Hk.kitB' "NoSpot" (fun K => .ref (ga K "NoSpot")) true)), oSO := of_decide_eq_true (c.fact 48 (f := fun K => decide (PySem.W.kitAny K (.ref (ga K "NoSpot")) [.ref (ga K "BadWorld"), .ref (ga K "BadSpot")] = some false))), mXE := exm_ok (c.fact 49 (f := Hk.fa (.exm "BadWorld" "EllError" true))), oXV := of_decide_eq_true (c.fact 50 (f := Hk.kitB' "BadWorld" (fun _ => .type "ValueError") true)), oXX := of_decide_eq_true (c.fact 51 (f := Hk.kitB' "BadWorld" (fun K => .ref (ga K "BadWorld")) true)), oXO := of_decide_eq_true (c.fact 52 (f := fun K => decide (PySem.W.kitAny K (.ref (ga K "BadWorld")) [.ref (ga K "NoSpot"), .ref (ga K "BadSpot")] = some false))), eS := Hk.excB_ok (c.fact 25 (f := Hk.excB "NoSpot")), xf_NoSpot := have z := Hk.excB_ok (c.fact 25 (f := Hk.excB "NoSpot")); ⟨z.hg, z.hk, z.hs, z.hd⟩, xn_NoSpot_spot := noat_ok (c.fact 39 (f := Hk.fa (.noat "NoSpot" "spot"))), eX := Hk.excB_ok (c.fact 28 (f := Hk.excB "BadWorld")), xf_BadWorld := have z := Hk.excB_ok (c.fact 28 (f := Hk.excB "BadWorld")); ⟨z.hg, z.hk, z.hs, z.hd⟩, xn_BadWorld_place := noat_ok (c.fact 40 (f := Hk.fa (.noat "BadWorld" "place"))), clW := cls_ok (c.fact 104 (f := Hk.fa (.cls "World"))), nTb := noat_ok (c.fact 41 (f := Hk.fa (.noat "World" "table"))), gi_World := fun f M => by have z := (meth_ok (c.fact 108 (f := Hk.fa (.meth "World" "__getitem__")))).at_.symm.trans M.at_; cases z; exact (c.fact 42 (f := fun K => PySem.W.fnIn K (ma K (ga K "World") "__getitem__"))), nfW := (c.fact 43 (f := fun K => PySem.W.notFirst K (ga K "World") (.ref (ga K "World")))), kWW := of_decide_eq_true (c.fact 44 (f := fun K => decide (PySem.W.kitOne K (.ref (ga K "World")) (.ref (ga K "World")) = some true))), tyW := Hk.insB_ok (cls_ok (c.fact 104 (f := Hk.fa (.cls "World")))) (c.fact 105 (f := Hk.insB "World")), nfN := (c.fact 53 (f := fun K => PySem.W.notFirst K (ga K "World") (.type "NoneType"))), kNW := of_decide_eq_true (c.fact 54 (f := fun K => decide (PySem.W.kitOne K (.type "NoneType") (.ref (ga K "World")) = some false))), nfI := (c.fact 55 (f := fun K => PySem.W.notFirst K (ga K "World") (.type "int"))), kIW := of_decide_eq_true (c.fact 56 (f := fun K => decide (PySem.W.kitOne K (.type "int") (.ref (ga K "World")) = some false))), nfT := (c.fact 57 (f := fun K => PySem.W.notFirst K (ga K "World") (.type "str"))), kTW := of_decide_eq_true (c.fact 58 (f := fun K => decide (PySem.W.kitOne K (.type "str") (.ref (ga K "World")) = some false))), nfU := (c.fact 59 (f := fun K => PySem.W.notFirst K (ga K "World") (.type "tuple"))), kUW := of_decide_eq_true (c.fact 60 (f := fun K => decide (PySem.W.kitOne K (.type "tuple") (.ref (ga K "World")) = some false))), nfL := (c.fact 61 (f := fun K => PySem.W.notFirst K (ga K "World") (.type "list"))), kLW := of_decide_eq_true (c.fact 62 (f := fun K => decide (PySem.W.kitOne K (.type "list") (.ref (ga K "World")) = some false))) }
theorem chain {w : World} {K : PySem.W.Frag} {h : Heap} {mg : Str → Option Value} {f : Addr} (X : K.In h) (G : h.Ns mainGlobals mg) (hfa : mg ("law" : Str) = some (.ref f)) (c : Hk.SaysO fb fn xs K) :
    ∃ fd : FuncData, (∀ (s : Shared) (v : Value), BindsTo s fd ⟨[v], []⟩ [("_law_script", v)]) ∧ ∀ base : Heap, FnG L.prog w K mg base 9 f fd ["_law_script"] (Lw.spLaw K) := by
  have T := tp X G c
  obtain ⟨fd_l_pick, F_l_pick⟩ := c.def_ 19 (d := ⟨fun K => ga K "_law_pick", "_law_pick", "_law_pick", defArgs Lw.s_l_pick, defBody Lw.s_l_pick, defScope Lw.s_l_pick, [], []⟩)
  obtain ⟨fd_l_choice, F_l_choice⟩ := c.def_ 20 (d := ⟨fun K => ga K "_law_choice", "_law_choice", "_law_choice", defArgs Lw.s_l_choice, defBody Lw.s_l_choice, defScope Lw.s_l_choice, [], []⟩)
  obtain ⟨fd_l_bag_of, F_l_bag_of⟩ := c.def_ 18 (d := ⟨fun K => ga K "_law_bag_of", "_law_bag_of", "_law_bag_of", defArgs Lw.s_l_bag_of, defBody Lw.s_l_bag_of, defScope Lw.s_l_bag_of, [], []⟩)
  obtain ⟨fd_l_integer, F_l_integer⟩ := c.def_ 23 (d := ⟨fun K => ga K "_law_integer", "_law_integer", "_law_integer", defArgs Lw.s_l_integer, defBody Lw.s_l_integer, defScope Lw.s_l_integer, [], []⟩)
  obtain ⟨fd_l_shuffled, F_l_shuffled⟩ := c.def_ 22 (d := ⟨fun K => ga K "_law_shuffled", "_law_shuffled", "_law_shuffled", defArgs Lw.s_l_shuffled, defBody Lw.s_l_shuffled, defScope Lw.s_l_shuffled, [], []⟩)
  obtain ⟨fd_l_gcd, F_l_gcd⟩ := c.def_ 24 (d := ⟨fun K => ga K "_law_gcd", "_law_gcd", "_law_gcd", defArgs Lw.s_l_gcd, defBody Lw.s_l_gcd, defScope Lw.s_l_gcd, [], []⟩)
  obtain ⟨fd_l_ratio, F_l_ratio⟩ := c.def_ 25 (d := ⟨fun K => ga K "_law_ratio", "_law_ratio", "_law_ratio", defArgs Lw.s_l_ratio, defBody Lw.s_l_ratio, defScope Lw.s_l_ratio, [], []⟩)
  obtain ⟨fd_l_is_ratio, F_l_is_ratio⟩ := c.def_ 26 (d := ⟨fun K => ga K "_law_is_ratio", "_law_is_ratio", "_law_is_ratio", defArgs Lw.s_l_is_ratio, defBody Lw.s_l_is_ratio, defScope Lw.s_l_is_ratio, [], []⟩)
  obtain ⟨fd_l_plus, F_l_plus⟩ := c.def_ 27 (d := ⟨fun K => ga K "_law_plus", "_law_plus", "_law_plus", defArgs Lw.s_l_plus, defBody Lw.s_l_plus, defScope Lw.s_l_plus, [], []⟩)
  obtain ⟨fd_l_minus, F_l_minus⟩ := c.def_ 28 (d := ⟨fun K => ga K "_law_minus", "_law_minus", "_law_minus", defArgs Lw.s_l_minus, defBody Lw.s_l_minus, defScope Lw.s_l_minus, [], []⟩)
  obtain ⟨fd_l_less, F_l_less⟩ := c.def_ 29 (d := ⟨fun K => ga K "_law_less", "_law_less", "_law_less", defArgs Lw.s_l_less, defBody Lw.s_l_less, defScope Lw.s_l_less, [], []⟩)
  obtain ⟨fd_l_ground, F_l_ground⟩ := c.def_ 30 (d := ⟨fun K => ga K "_law_ground", "_law_ground", "_law_ground", defArgs Lw.s_l_ground, defBody Lw.s_l_ground, defScope Lw.s_l_ground, [], []⟩)
  obtain ⟨fd_is_integer, F_is_integer⟩ := c.def_ 8 (d := ⟨fun K => ga K "is_integer", "is_integer", "is_integer", defArgs Lw.s_is_integer, defBody Lw.s_is_integer, defScope Lw.s_is_integer, [.non, .non], []⟩)
  obtain ⟨fd_ratio, F_ratio⟩ := c.def_ 9 (d := ⟨fun K => ga K "ratio", "ratio", "ratio", defArgs Lw.s_ratio, defBody Lw.s_ratio, defScope Lw.s_ratio, [.int 1], []⟩)
  obtain ⟨fd_is_ratio, F_is_ratio⟩ := c.def_ 10 (d := ⟨fun K => ga K "is_ratio", "is_ratio", "is_ratio", defArgs Lw.s_is_ratio, defBody Lw.s_is_ratio, defScope Lw.s_is_ratio, [], []⟩)
  obtain ⟨fd_minus, F_minus⟩ := c.def_ 11 (d := ⟨fun K => ga K "minus", "minus", "minus", defArgs Lw.s_minus, defBody Lw.s_minus, defScope Lw.s_minus, [], []⟩)
  obtain ⟨fd_compare, F_compare⟩ := c.def_ 12 (d := ⟨fun K => ga K "compare", "compare", "compare", defArgs Lw.s_compare, defBody Lw.s_compare, defScope Lw.s_compare, [], []⟩)
  obtain ⟨fd_is_spot, F_is_spot⟩ := c.def_ 13 (d := ⟨fun K => ga K "is_spot", "is_spot", "is_spot", defArgs Lw.s_is_spot, defBody Lw.s_is_spot, defScope Lw.s_is_spot, [], []⟩)
  obtain ⟨fd_table_of_pairs, F_table_of_pairs⟩ := c.def_ 14 (d := ⟨fun K => ga K "table_of_pairs", "table_of_pairs", "table_of_pairs", defArgs Lw.s_table_of_pairs, defBody Lw.s_table_of_pairs, defScope Lw.s_table_of_pairs, [], []⟩)
  obtain ⟨fd_World_init, F_World_init⟩ := c.def_ 0 (d := ⟨fun K => ma K (ga K "World") "__init__", "__init__", "World.__init__", defArgs Lw.s_World_init, defBody Lw.s_World_init, defScope Lw.s_World_init, [], []⟩)
  obtain ⟨fd_World_getitem, F_World_getitem⟩ := c.def_ 1 (d := ⟨fun K => ma K (ga K "World") "__getitem__", "__getitem__", "World.__getitem__", defArgs Lw.s_World_getitem, defBody Lw.s_World_getitem, defScope Lw.s_World_getitem, [], []⟩)
  obtain ⟨fd_World_iter, F_World_iter⟩ := c.def_ 2 (d := ⟨fun K => ma K (ga K "World") "__iter__", "__iter__", "World.__iter__", defArgs Lw.s_World_iter, defBody Lw.s_World_iter, defScope Lw.s_World_iter, [], []⟩)
  obtain ⟨fd_World_len, F_World_len⟩ := c.def_ 3 (d := ⟨fun K => ma K (ga K "World") "__len__", "__len__", "World.__len__", defArgs Lw.s_World_len, defBody Lw.s_World_len, defScope Lw.s_World_len, [], []⟩)
  obtain ⟨fd_World_contains, F_World_contains⟩ := c.def_ 4 (d := ⟨fun K => ma K (ga K "World") "__contains__", "__contains__", "World.__contains__", defArgs Lw.s_World_contains, defBody Lw.s_World_contains, defScope Lw.s_World_contains, [], []⟩)
  obtain ⟨fd_World_eq, F_World_eq⟩ := c.def_ 5 (d := ⟨fun K => ma K (ga K "World") "__eq__", "__eq__", "World.__eq__", defArgs Lw.s_World_eq, defBody Lw.s_World_eq, defScope Lw.s_World_eq, [], []⟩)
  obtain ⟨fd_World_gap, F_World_gap⟩ := c.def_ 6 (d := ⟨fun K => ma K (ga K "World") "gap", "gap", "World.gap", defArgs Lw.s_World_gap, defBody Lw.s_World_gap, defScope Lw.s_World_gap, [], []⟩)
  obtain ⟨fd_World_keeps, F_World_keeps⟩ := c.def_ 7 (d := ⟨fun K => ma K (ga K "World") "keeps", "keeps", "World.keeps", defArgs Lw.s_World_keeps, defBody Lw.s_World_keeps, defScope Lw.s_World_keeps, [], []⟩)
  obtain ⟨fd_mixed_worlds, F_mixed_worlds⟩ := c.def_ 15 (d := ⟨fun K => ga K "mixed_worlds", "mixed_worlds", "mixed_worlds", defArgs Lw.s_mixed_worlds, defBody Lw.s_mixed_worlds, defScope Lw.s_mixed_worlds, [], []⟩)
  obtain ⟨fd_higher, F_higher⟩ := c.def_ 16 (d := ⟨fun K => ga K "higher", "higher", "higher", defArgs Lw.s_higher, defBody Lw.s_higher, defScope Lw.s_higher, [], []⟩)
  obtain ⟨fd_lower, F_lower⟩ := c.def_ 17 (d := ⟨fun K => ga K "lower", "lower", "lower", defArgs Lw.s_lower, defBody Lw.s_lower, defScope Lw.s_lower, [], []⟩)
  obtain ⟨fd_l_some, F_l_some⟩ := c.def_ 21 (d := ⟨fun K => ga K "_law_some", "_law_some", "_law_some", defArgs Lw.s_l_some, defBody Lw.s_l_some, defScope Lw.s_l_some, [], []⟩)
  obtain ⟨fd_l_word_drawn, F_l_word_drawn⟩ := c.def_ 31 (d := ⟨fun K => ga K "_law_word_drawn", "_law_word_drawn", "_law_word_drawn", defArgs Lw.s_l_word_drawn, defBody Lw.s_l_word_drawn, defScope Lw.s_l_word_drawn, [], []⟩)
  obtain ⟨fd_l_whole, F_l_whole⟩ := c.def_ 32 (d := ⟨fun K => ga K "_law_whole", "_law_whole", "_law_whole", defArgs Lw.s_l_whole, defBody Lw.s_l_whole, defScope Lw.s_l_whole, [], []⟩)
  obtain ⟨fd_l_some_spots, F_l_some_spots⟩ := c.def_ 33 (d := ⟨fun K => ga K "_law_some_spots", "_law_some_spots", "_law_some_spots", defArgs Lw.s_l_some_spots, defBody Lw.s_l_some_spots, defScope Lw.s_l_some_spots, [], []⟩)
  obtain ⟨fd_l_stranger, F_l_stranger⟩ := c.def_ 34 (d := ⟨fun K => ga K "_law_stranger", "_law_stranger", "_law_stranger", defArgs Lw.s_l_stranger, defBody Lw.s_l_stranger, defScope Lw.s_l_stranger, [], []⟩)
  obtain ⟨fd_l_spot_like, F_l_spot_like⟩ := c.def_ 35 (d := ⟨fun K => ga K "_law_spot_like", "_law_spot_like", "_law_spot_like", defArgs Lw.s_l_spot_like, defBody Lw.s_l_spot_like, defScope Lw.s_l_spot_like, [], []⟩)
  obtain ⟨fd_l_drawn_ratio, F_l_drawn_ratio⟩ := c.def_ 36 (d := ⟨fun K => ga K "_law_drawn_ratio", "_law_drawn_ratio", "_law_drawn_ratio", defArgs Lw.s_l_drawn_ratio, defBody Lw.s_l_drawn_ratio, defScope Lw.s_l_drawn_ratio, [], []⟩)
  obtain ⟨fd_l_told_well, F_l_told_well⟩ := c.def_ 37 (d := ⟨fun K => ga K "_law_told_well", "_law_told_well", "_law_told_well", defArgs Lw.s_l_told_well, defBody Lw.s_l_told_well, defScope Lw.s_l_told_well, [], []⟩)
  obtain ⟨fd_l_gaps_told_well, F_l_gaps_told_well⟩ := c.def_ 38 (d := ⟨fun K => ga K "_law_gaps_told_well", "_law_gaps_told_well", "_law_gaps_told_well", defArgs Lw.s_l_gaps_told_well, defBody Lw.s_l_gaps_told_well, defScope Lw.s_l_gaps_told_well, [], []⟩)
  obtain ⟨fd_l_lacks, F_l_lacks⟩ := c.def_ 39 (d := ⟨fun K => ga K "_law_lacks", "_law_lacks", "_law_lacks", defArgs Lw.s_l_lacks, defBody Lw.s_l_lacks, defScope Lw.s_l_lacks, [], []⟩)
  obtain ⟨fd_l_lookalikes, F_l_lookalikes⟩ := c.def_ 40 (d := ⟨fun K => ga K "_law_lookalikes", "_law_lookalikes", "_law_lookalikes", defArgs Lw.s_l_lookalikes, defBody Lw.s_l_lookalikes, defScope Lw.s_l_lookalikes, [], []⟩)
  obtain ⟨fd_l_strangers_refused, F_l_strangers_refused⟩ := c.def_ 41 (d := ⟨fun K => ga K "_law_strangers_refused", "_law_strangers_refused", "_law_strangers_refused", defArgs Lw.s_l_strangers_refused, defBody Lw.s_l_strangers_refused, defScope Lw.s_l_strangers_refused, [], []⟩)
  obtain ⟨fd_l_equal_as_due, F_l_equal_as_due⟩ := c.def_ 42 (d := ⟨fun K => ga K "_law_equal_as_due", "_law_equal_as_due", "_law_equal_as_due", defArgs Lw.s_l_equal_as_due, defBody Lw.s_l_equal_as_due, defScope Lw.s_l_equal_as_due, [], []⟩)
  obtain ⟨fd_l_mixed_as_due, F_l_mixed_as_due⟩ := c.def_ 43 (d := ⟨fun K => ga K "_law_mixed_as_due", "_law_mixed_as_due", "_law_mixed_as_due", defArgs Lw.s_l_mixed_as_due, defBody Lw.s_l_mixed_as_due, defScope Lw.s_l_mixed_as_due, [], []⟩)
  obtain ⟨fd_l_wrong_pair, F_l_wrong_pair⟩ := c.def_ 44 (d := ⟨fun K => ga K "_law_wrong_pair", "_law_wrong_pair", "_law_wrong_pair", defArgs Lw.s_l_wrong_pair, defBody Lw.s_l_wrong_pair, defScope Lw.s_l_wrong_pair, [], []⟩)
  obtain ⟨fd_l_wrong_rows_refused, F_l_wrong_rows_refused⟩ := c.def_ 45 (d := ⟨fun K => ga K "_law_wrong_rows_refused", "_law_wrong_rows_refused", "_law_wrong_rows_refused", defArgs Lw.s_l_wrong_rows_refused, defBody Lw.s_l_wrong_rows_refused, defScope Lw.s_l_wrong_rows_refused, [], []⟩)
  obtain ⟨fd_l_spots_known, F_l_spots_known⟩ := c.def_ 46 (d := ⟨fun K => ga K "_law_spots_known", "_law_spots_known", "_law_spots_known", defArgs Lw.s_l_spots_known, defBody Lw.s_l_spots_known, defScope Lw.s_l_spots_known, [], []⟩)
  obtain ⟨fd_law, F_law⟩ := c.def_ 47 (d := ⟨fun K => ga K "law", "law", "law", defArgs Lw.s_law, defBody Lw.s_law, defScope Lw.s_law, [], []⟩)
  have e := hfa.symm.trans (glo_ok X G (x := "law") (c.fact 102 (f := Hk.fa (.glo "law"))))
  cases e
  refine ⟨fd_law, fun s v => FunD.bindsA (ps := ["_law_script"]) F_law (fun _ _ _ _ _ _ us hl => match us, hl with | [_], _ => rfl) s [v] rfl, fun base => ?_⟩
  have g_l_pick := Lw.ok_l_pick (P := L.prog) (w := w) (base := base) T  F_l_pick
  have c_l_pick := cal_mk g_l_pick (glo_ok X G (x := "_law_pick") (c.fact 74 (f := Hk.fa (.glo "_law_pick")))) F_l_pick.kp (FunD.bindsN (ps := Lw.P_l_pick) F_l_pick fun _ _ _ _ _ _ us hl => match us, hl with | [_, _], _ => rfl) .nil
  have g_l_choice := Lw.ok_l_choice (P := L.prog) (w := w) (base := base) T c_l_pick F_l_choice
  have c_l_choice := cal_mk g_l_choice (glo_ok X G (x := "_law_choice") (c.fact 75 (f := Hk.fa (.glo "_law_choice")))) F_l_choice.kp (FunD.bindsN (ps := Lw.P_l_choice) F_l_choice fun _ _ _ _ _ _ us hl => match us, hl with | [_, _], _ => rfl) .nil
  have g_l_bag_of := Lw.ok_l_bag_of (P := L.prog) (w := w) (base := base) T  F_l_bag_of
  have c_l_bag_of := cal_mk g_l_bag_of (glo_ok X G (x := "_law_bag_of") (c.fact 73 (f := Hk.fa (.glo "_law_bag_of")))) F_l_bag_of.kp (FunD.bindsN (ps := Lw.P_l_bag_of) F_l_bag_of fun _ _ _ _ _ _ us hl => match us, hl with | [_], _ => rfl) .nil
  have g_l_integer := Lw.ok_l_integer (P := L.prog) (w := w) (base := base) T  F_l_integer
  have c_l_integer := cal_mk g_l_integer (glo_ok X G (x := "_law_integer") (c.fact 78 (f := Hk.fa (.glo "_law_integer")))) F_l_integer.kp (FunD.bindsN (ps := Lw.P_l_integer) F_l_integer fun _ _ _ _ _ _ us hl => match us, hl with | [_], _ => rfl) .nil
  have c_l_integer_h : CalH L.prog w K mg base 1 "_law_integer" Lw.P_l_integer _ := ⟨_, _, Lw.ok_l_integer_h (P := L.prog) (w := w) (base := base) T  F_l_integer, (glo_ok X G (x := "_law_integer") (c.fact 78 (f := Hk.fa (.glo "_law_integer")))), F_l_integer.kp, FunD.bindsN (ps := Lw.P_l_integer) F_l_integer fun _ _ _ _ _ _ us hl => match us, hl with | [_], _ => rfl⟩
  have g_l_shuffled := Lw.ok_l_shuffled (P := L.prog) (w := w) (base := base) T c_l_pick F_l_shuffled
  have c_l_shuffled := cal_mk g_l_shuffled (glo_ok X G (x := "_law_shuffled") (c.fact 77 (f := Hk.fa (.glo "_law_shuffled")))) F_l_shuffled.kp (FunD.bindsN (ps := Lw.P_l_shuffled) F_l_shuffled fun _ _ _ _ _ _ us hl => match us, hl with | [_, _], _ => rfl) .nil
  have g_l_gcd := Lw.ok_l_gcd (P := L.prog) (w := w) (base := base) T  F_l_gcd
  have c_l_gcd := cal_mk g_l_gcd (glo_ok X G (x := "_law_gcd") (c.fact 79 (f := Hk.fa (.glo "_law_gcd")))) F_l_gcd.kp (FunD.bindsN (ps := Lw.P_l_gcd) F_l_gcd fun _ _ _ _ _ _ us hl => match us, hl with | [_, _], _ => rfl) .nil
  have g_l_ratio := Lw.ok_l_ratio (P := L.prog) (w := w) (base := base) T c_l_gcd F_l_ratio
  have c_l_ratio := cal_mk g_l_ratio (glo_ok X G (x := "_law_ratio") (c.fact 80 (f := Hk.fa (.glo "_law_ratio")))) F_l_ratio.kp (FunD.bindsN (ps := Lw.P_l_ratio) F_l_ratio fun _ _ _ _ _ _ us hl => match us, hl with | [_, _], _ => rfl) .nil
  have g_l_is_ratio := Lw.ok_l_is_ratio (P := L.prog) (w := w) (base := base) T c_l_gcd c_l_integer F_l_is_ratio
  have c_l_is_ratio := cal_mk g_l_is_ratio (glo_ok X G (x := "_law_is_ratio") (c.fact 81 (f := Hk.fa (.glo "_law_is_ratio")))) F_l_is_ratio.kp (FunD.bindsN (ps := Lw.P_l_is_ratio) F_l_is_ratio fun _ _ _ _ _ _ us hl => match us, hl with | [_], _ => rfl) .nil
  have g_l_plus := Lw.ok_l_plus (P := L.prog) (w := w) (base := base) T c_l_ratio F_l_plus
  have c_l_plus := cal_mk g_l_plus (glo_ok X G (x := "_law_plus") (c.fact 82 (f := Hk.fa (.glo "_law_plus")))) F_l_plus.kp (FunD.bindsN (ps := Lw.P_l_plus) F_l_plus fun _ _ _ _ _ _ us hl => match us, hl with | [_, _], _ => rfl) .nil
  have g_l_minus := Lw.ok_l_minus (P := L.prog) (w := w) (base := base) T c_l_ratio F_l_minus
  have c_l_minus := cal_mk g_l_minus (glo_ok X G (x := "_law_minus") (c.fact 83 (f := Hk.fa (.glo "_law_minus")))) F_l_minus.kp (FunD.bindsN (ps := Lw.P_l_minus) F_l_minus fun _ _ _ _ _ _ us hl => match us, hl with | [_, _], _ => rfl) .nil
  have g_l_less := Lw.ok_l_less (P := L.prog) (w := w) (base := base) T  F_l_less
  have c_l_less := cal_mk g_l_less (glo_ok X G (x := "_law_less") (c.fact 84 (f := Hk.fa (.glo "_law_less")))) F_l_less.kp (FunD.bindsN (ps := Lw.P_l_less) F_l_less fun _ _ _ _ _ _ us hl => match us, hl with | [_, _], _ => rfl) .nil
  have g_l_ground := Lw.ok_l_ground (P := L.prog) (w := w) (base := base) T  F_l_ground
  have c_l_ground := cal_mk g_l_ground (glo_ok X G (x := "_law_ground") (c.fact 85 (f := Hk.fa (.glo "_law_ground")))) F_l_ground.kp (FunD.bindsN (ps := Lw.P_l_ground) F_l_ground fun _ _ _ _ _ _ us hl => match us, hl with | [], _ => rfl) .nil
  have g_is_integer := Lw.ok_is_integer (P := L.prog) (w := w) (base := base) T  F_is_integer
  obtain ⟨ds_is_integer_1, v_is_integer_1, b_is_integer_1⟩ := FunD.binds1 (ps := Lw.P_is_integer) F_is_integer 1 0 (List.cons_ne_nil _ _) rfl (fun T _ _ _ _ _ _ us its hu hi => match us, hu, its, hi with | [_], _, [_, _], _ => ⟨_, rfl, rfl⟩)
  have c_is_integer_1 : Cal L.prog w K mg base 1 "is_integer" Lw.P_is_integer [.non, .non] _ := cal_mk g_is_integer (glo_ok X G (x := "is_integer") (c.fact 63 (f := Hk.fa (.glo "is_integer")))) F_is_integer.kp b_is_integer_1 v_is_integer_1
  obtain ⟨ds_is_integer_2, v_is_integer_2, b_is_integer_2⟩ := FunD.binds1 (ps := Lw.P_is_integer) F_is_integer 2 1 (List.cons_ne_nil _ _) rfl (fun T _ _ _ _ _ _ us its hu hi => match us, hu, its, hi with | [_, _], _, [_, _], _ => ⟨_, rfl, rfl⟩)
  have c_is_integer_2 : Cal L.prog w K mg base 1 "is_integer" Lw.P_is_integer [.non] _ := cal_mk g_is_integer (glo_ok X G (x := "is_integer") (c.fact 63 (f := Hk.fa (.glo "is_integer")))) F_is_integer.kp b_is_integer_2 v_is_integer_2
  obtain ⟨ds_is_integer_3, v_is_integer_3, b_is_integer_3⟩ := FunD.binds1 (ps := Lw.P_is_integer) F_is_integer 3 2 (List.cons_ne_nil _ _) rfl (fun T _ _ _ _ _ _ us its hu hi => match us, hu, its, hi with | [_, _, _], _, [_, _], _ => ⟨_, rfl, rfl⟩)
  have c_is_integer_3 : Cal L.prog w K mg base 1 "is_integer" Lw.P_is_integer [] _ := cal_mk g_is_integer (glo_ok X G (x := "is_integer") (c.fact 63 (f := Hk.fa (.glo "is_integer")))) F_is_integer.kp b_is_integer_3 v_is_integer_3
  have g_ratio := Lw.ok_ratio (P := L.prog) (w := w) (base := base) T  F_ratio
  obtain ⟨ds_ratio_1, v_ratio_1, b_ratio_1⟩ := FunD.binds1 (ps := Lw.P_ratio) F_ratio 1 0 (List.cons_ne_nil _ _) rfl (fun T _ _ _ _ _ _ us its hu hi => match us, hu, its, hi with | [_], _, [_], _ => ⟨_, rfl, rfl⟩)
  have c_ratio_1 : Cal L.prog w K mg base 1 "ratio" Lw.P_ratio [.int 1] _ := cal_mk g_ratio (glo_ok X G (x := "ratio") (c.fact 64 (f := Hk.fa (.glo "ratio")))) F_ratio.kp b_ratio_1 v_ratio_1
  obtain ⟨ds_ratio_2, v_ratio_2, b_ratio_2⟩ := FunD.binds1 (ps := Lw.P_ratio) F_ratio 2 1 (List.cons_ne_nil _ _) rfl (fun T _ _ _ _ _ _ us its hu hi => match us, hu, its, hi with | [_, _], _, [_], _ => ⟨_, rfl, rfl⟩)
  have c_ratio_2 : Cal L.prog w K mg base 1 "ratio" Lw.P_ratio [] _ := cal_mk g_ratio (glo_ok X G (x := "ratio") (c.fact 64 (f := Hk.fa (.glo "ratio")))) F_ratio.kp b_ratio_2 v_ratio_2
  have g_is_ratio := Lw.ok_is_ratio (P := L.prog) (w := w) (base := base) T c_is_integer_1 c_is_integer_2 F_is_ratio
  have c_is_ratio := cal_mk g_is_ratio (glo_ok X G (x := "is_ratio") (c.fact 65 (f := Hk.fa (.glo "is_ratio")))) F_is_ratio.kp (FunD.bindsN (ps := Lw.P_is_ratio) F_is_ratio fun _ _ _ _ _ _ us hl => match us, hl with | [_], _ => rfl) .nil
  have g_minus := Lw.ok_minus (P := L.prog) (w := w) (base := base) T c_ratio_2 F_minus
  have c_minus := cal_mk g_minus (glo_ok X G (x := "minus") (c.fact 66 (f := Hk.fa (.glo "minus")))) F_minus.kp (FunD.bindsN (ps := Lw.P_minus) F_minus fun _ _ _ _ _ _ us hl => match us, hl with | [_, _], _ => rfl) .nil
  have g_compare := Lw.ok_compare (P := L.prog) (w := w) (base := base) T  F_compare
  have c_compare := cal_mk g_compare (glo_ok X G (x := "compare") (c.fact 67 (f := Hk.fa (.glo "compare")))) F_compare.kp (FunD.bindsN (ps := Lw.P_compare) F_compare fun _ _ _ _ _ _ us hl => match us, hl with | [_, _], _ => rfl) .nil
  have g_is_spot := Lw.ok_is_spot (P := L.prog) (w := w) (base := base) T c_is_integer_1 F_is_spot
  have c_is_spot := cal_mk g_is_spot (glo_ok X G (x := "is_spot") (c.fact 68 (f := Hk.fa (.glo "is_spot")))) F_is_spot.kp (FunD.bindsN (ps := Lw.P_is_spot) F_is_spot fun _ _ _ _ _ _ us hl => match us, hl with | [_], _ => rfl) .nil
  have g_table_of_pairs := Lw.ok_table_of_pairs (P := L.prog) (w := w) (base := base) T c_is_ratio c_is_spot F_table_of_pairs
  have c_table_of_pairs := cal_mk g_table_of_pairs (glo_ok X G (x := "table_of_pairs") (c.fact 69 (f := Hk.fa (.glo "table_of_pairs")))) F_table_of_pairs.kp (FunD.bindsN (ps := Lw.P_table_of_pairs) F_table_of_pairs fun _ _ _ _ _ _ us hl => match us, hl with | [_], _ => rfl) .nil
  have g_World_init := Lw.ok_World_init (P := L.prog) (w := w) (base := base) T c_table_of_pairs F_World_init
  have c_World_init := calC_mk g_World_init (glo_ok X G (x := "World") (c.fact 103 (f := Hk.fa (.glo "World")))) (mkr_ok (c.fact 107 (f := Hk.fa (.mkr "World")))) (FunD.bindsN (ps := Lw.P_World_init) F_World_init fun _ _ _ _ _ _ us hl => match us, hl with | [_, _], _ => rfl)
  have g_World_getitem := Lw.ok_World_getitem (P := L.prog) (w := w) (base := base) T c_is_spot F_World_getitem
  have c_World_getitem := calM_mk g_World_getitem (cls_ok (c.fact 104 (f := Hk.fa (.cls "World")))) (meth_ok (c.fact 108 (f := Hk.fa (.meth "World" "__getitem__")))) (FunD.bindsN (ps := Lw.P_World_getitem) F_World_getitem fun _ _ _ _ _ _ us hl => match us, hl with | [_, _], _ => rfl)
  have g_World_iter := Lw.ok_World_iter (P := L.prog) (w := w) (base := base) T  F_World_iter
  have c_World_iter := calM_mk g_World_iter (cls_ok (c.fact 104 (f := Hk.fa (.cls "World")))) (meth_ok (c.fact 109 (f := Hk.fa (.meth "World" "__iter__")))) (FunD.bindsN (ps := Lw.P_World_iter) F_World_iter fun _ _ _ _ _ _ us hl => match us, hl with | [_], _ => rfl)
  have g_World_len := Lw.ok_World_len (P := L.prog) (w := w) (base := base) T  F_World_len
  have c_World_len := calM_mk g_World_len (cls_ok (c.fact 104 (f := Hk.fa (.cls "World")))) (meth_ok (c.fact 110 (f := Hk.fa (.meth "World" "__len__")))) (FunD.bindsN (ps := Lw.P_World_len) F_World_len fun _ _ _ _ _ _ us hl => match us, hl with | [_], _ => rfl)
  have g_World_contains := Lw.ok_World_contains (P := L.prog) (w := w) (base := base) T c_is_spot F_World_contains
  have c_World_contains := calM_mk g_World_contains (cls_ok (c.fact 104 (f := Hk.fa (.cls "World")))) (meth_ok (c.fact 111 (f := Hk.fa (.meth "World" "__contains__")))) (FunD.bindsN (ps := Lw.P_World_contains) F_World_contains fun _ _ _ _ _ _ us hl => match us, hl with | [_, _], _ => rfl)
  have g_World_eq := Lw.ok_World_eq (P := L.prog) (w := w) (base := base) T  F_World_eq
  have c_World_eq := calM_mk g_World_eq (cls_ok (c.fact 104 (f := Hk.fa (.cls "World")))) (meth_ok (c.fact 112 (f := Hk.fa (.meth "World" "__eq__")))) (FunD.bindsN (ps := Lw.P_World_eq) F_World_eq fun _ _ _ _ _ _ us hl => match us, hl with | [_, _], _ => rfl)
  have g_World_gap := Lw.ok_World_gap (P := L.prog) (w := w) (base := base) T c_World_getitem c_minus F_World_gap
  have c_World_gap := calM_mk g_World_gap (cls_ok (c.fact 104 (f := Hk.fa (.cls "World")))) (meth_ok (c.fact 113 (f := Hk.fa (.meth "World" "gap")))) (FunD.bindsN (ps := Lw.P_World_gap) F_World_gap fun _ _ _ _ _ _ us hl => match us, hl with | [_, _, _], _ => rfl)
  have g_World_keeps := Lw.ok_World_keeps (P := L.prog) (w := w) (base := base) T c_World_gap c_compare F_World_keeps
  have c_World_keeps := calM_mk g_World_keeps (cls_ok (c.fact 104 (f := Hk.fa (.cls "World")))) (meth_ok (c.fact 114 (f := Hk.fa (.meth "World" "keeps")))) (FunD.bindsN (ps := Lw.P_World_keeps) F_World_keeps fun _ _ _ _ _ _ us hl => match us, hl with | [_, _], _ => rfl)
  have g_mixed_worlds := Lw.ok_mixed_worlds (P := L.prog) (w := w) (base := base) T c_World_init c_compare F_mixed_worlds
  have c_mixed_worlds := cal_mk g_mixed_worlds (glo_ok X G (x := "mixed_worlds") (c.fact 70 (f := Hk.fa (.glo "mixed_worlds")))) F_mixed_worlds.kp (FunD.bindsN (ps := Lw.P_mixed_worlds) F_mixed_worlds fun _ _ _ _ _ _ us hl => match us, hl with | [_, _, _], _ => rfl) .nil
  have g_higher := Lw.ok_higher (P := L.prog) (w := w) (base := base) T c_mixed_worlds F_higher
  have c_higher := cal_mk g_higher (glo_ok X G (x := "higher") (c.fact 71 (f := Hk.fa (.glo "higher")))) F_higher.kp (FunD.bindsN (ps := Lw.P_higher) F_higher fun _ _ _ _ _ _ us hl => match us, hl with | [_, _], _ => rfl) .nil
  have g_lower := Lw.ok_lower (P := L.prog) (w := w) (base := base) T c_mixed_worlds F_lower
  have c_lower := cal_mk g_lower (glo_ok X G (x := "lower") (c.fact 72 (f := Hk.fa (.glo "lower")))) F_lower.kp (FunD.bindsN (ps := Lw.P_lower) F_lower fun _ _ _ _ _ _ us hl => match us, hl with | [_, _], _ => rfl) .nil
  have g_l_some := Lw.ok_l_some (P := L.prog) (w := w) (base := base) T c_l_pick F_l_some
  have c_l_some := cal_mk g_l_some (glo_ok X G (x := "_law_some") (c.fact 76 (f := Hk.fa (.glo "_law_some")))) F_l_some.kp (FunD.bindsN (ps := Lw.P_l_some) F_l_some fun _ _ _ _ _ _ us hl => match us, hl with | [_, _], _ => rfl) .nil
  have g_l_word_drawn := Lw.ok_l_word_drawn (P := L.prog) (w := w) (base := base) T c_l_choice c_l_pick F_l_word_drawn
  have c_l_word_drawn := cal_mk g_l_word_drawn (glo_ok X G (x := "_law_word_drawn") (c.fact 86 (f := Hk.fa (.glo "_law_word_drawn")))) F_l_word_drawn.kp (FunD.bindsN (ps := Lw.P_l_word_drawn) F_l_word_drawn fun _ _ _ _ _ _ us hl => match us, hl with | [_], _ => rfl) .nil
  have g_l_whole := Lw.ok_l_whole (P := L.prog) (w := w) (base := base) T c_l_pick F_l_whole
  have c_l_whole := cal_mk g_l_whole (glo_ok X G (x := "_law_whole") (c.fact 87 (f := Hk.fa (.glo "_law_whole")))) F_l_whole.kp (FunD.bindsN (ps := Lw.P_l_whole) F_l_whole fun _ _ _ _ _ _ us hl => match us, hl with | [_], _ => rfl) .nil
  have g_l_some_spots := Lw.ok_l_some_spots (P := L.prog) (w := w) (base := base) T c_l_ground c_l_pick c_l_whole c_l_word_drawn F_l_some_spots
  have c_l_some_spots := cal_mk g_l_some_spots (glo_ok X G (x := "_law_some_spots") (c.fact 88 (f := Hk.fa (.glo "_law_some_spots")))) F_l_some_spots.kp (FunD.bindsN (ps := Lw.P_l_some_spots) F_l_some_spots fun _ _ _ _ _ _ us hl => match us, hl with | [_, _], _ => rfl) .nil
  have g_l_stranger := Lw.ok_l_stranger (P := L.prog) (w := w) (base := base) T c_l_choice c_l_whole F_l_stranger
  have c_l_stranger := cal_mk g_l_stranger (glo_ok X G (x := "_law_stranger") (c.fact 89 (f := Hk.fa (.glo "_law_stranger")))) F_l_stranger.kp (FunD.bindsN (ps := Lw.P_l_stranger) F_l_stranger fun _ _ _ _ _ _ us hl => match us, hl with | [_, _], _ => rfl) .nil
  have g_l_spot_like := Lw.ok_l_spot_like (P := L.prog) (w := w) (base := base) T c_l_integer F_l_spot_like
  have c_l_spot_like := cal_mk g_l_spot_like (glo_ok X G (x := "_law_spot_like") (c.fact 90 (f := Hk.fa (.glo "_law_spot_like")))) F_l_spot_like.kp (FunD.bindsN (ps := Lw.P_l_spot_like) F_l_spot_like fun _ _ _ _ _ _ us hl => match us, hl with | [_], _ => rfl) .nil
  have g_l_drawn_ratio := Lw.ok_l_drawn_ratio (P := L.prog) (w := w) (base := base) T c_l_pick c_l_ratio F_l_drawn_ratio
  have c_l_drawn_ratio := cal_mk g_l_drawn_ratio (glo_ok X G (x := "_law_drawn_ratio") (c.fact 91 (f := Hk.fa (.glo "_law_drawn_ratio")))) F_l_drawn_ratio.kp (FunD.bindsN (ps := Lw.P_l_drawn_ratio) F_l_drawn_ratio fun _ _ _ _ _ _ us hl => match us, hl with | [_], _ => rfl) .nil
  have g_l_told_well := Lw.ok_l_told_well (P := L.prog) (w := w) (base := base) T c_World_contains c_World_getitem c_World_iter c_World_len c_l_is_ratio c_l_spot_like F_l_told_well
  have c_l_told_well := cal_mk g_l_told_well (glo_ok X G (x := "_law_told_well") (c.fact 92 (f := Hk.fa (.glo "_law_told_well")))) F_l_told_well.kp (FunD.bindsN (ps := Lw.P_l_told_well) F_l_told_well fun _ _ _ _ _ _ us hl => match us, hl with | [_, _], _ => rfl) .nil
  have g_l_gaps_told_well := Lw.ok_l_gaps_told_well (P := L.prog) (w := w) (base := base) T c_World_gap c_World_keeps c_l_is_ratio c_l_minus F_l_gaps_told_well
  have c_l_gaps_told_well := cal_mk g_l_gaps_told_well (glo_ok X G (x := "_law_gaps_told_well") (c.fact 93 (f := Hk.fa (.glo "_law_gaps_told_well")))) F_l_gaps_told_well.kp (FunD.bindsN (ps := Lw.P_l_gaps_told_well) F_l_gaps_told_well fun _ _ _ _ _ _ us hl => match us, hl with | [_, _], _ => rfl) .nil
  have c_l_lacks : CalH L.prog w K mg base 1 "_law_lacks" Lw.P_l_lacks _ := ⟨_, _, Lw.ok_l_lacks (P := L.prog) (w := w) (base := base) T  F_l_lacks, (glo_ok X G (x := "_law_lacks") (c.fact 94 (f := Hk.fa (.glo "_law_lacks")))), F_l_lacks.kp, FunD.bindsN (ps := Lw.P_l_lacks) F_l_lacks fun _ _ _ _ _ _ us hl => match us, hl with | [_, _], _ => rfl⟩
  have g_l_lookalikes := Lw.ok_l_lookalikes (P := L.prog) (w := w) (base := base) T  F_l_lookalikes
  have c_l_lookalikes := cal_mk g_l_lookalikes (glo_ok X G (x := "_law_lookalikes") (c.fact 95 (f := Hk.fa (.glo "_law_lookalikes")))) F_l_lookalikes.kp (FunD.bindsN (ps := Lw.P_l_lookalikes) F_l_lookalikes fun _ _ _ _ _ _ us hl => match us, hl with | [_], _ => rfl) .nil
  have g_l_strangers_refused := Lw.ok_l_strangers_refused (P := L.prog) (w := w) (base := base) T c_World_contains c_World_gap c_World_getitem c_World_keeps c_l_lacks F_l_strangers_refused
  have c_l_strangers_refused := cal_mk g_l_strangers_refused (glo_ok X G (x := "_law_strangers_refused") (c.fact 96 (f := Hk.fa (.glo "_law_strangers_refused")))) F_l_strangers_refused.kp (FunD.bindsN (ps := Lw.P_l_strangers_refused) F_l_strangers_refused fun _ _ _ _ _ _ us hl => match us, hl with | [_, _, _, _], _ => rfl) .nil
  have g_l_equal_as_due := Lw.ok_l_equal_as_due (P := L.prog) (w := w) (base := base) T c_World_eq c_World_init c_l_choice c_l_pick c_l_plus c_l_ratio c_l_shuffled c_l_stranger F_l_equal_as_due
  have c_l_equal_as_due := cal_mk g_l_equal_as_due (glo_ok X G (x := "_law_equal_as_due") (c.fact 97 (f := Hk.fa (.glo "_law_equal_as_due")))) F_l_equal_as_due.kp (FunD.bindsN (ps := Lw.P_l_equal_as_due) F_l_equal_as_due fun _ _ _ _ _ _ us hl => match us, hl with | [_, _, _], _ => rfl) .nil
  have g_l_mixed_as_due := Lw.ok_l_mixed_as_due (P := L.prog) (w := w) (base := base) T c_higher c_l_lacks c_l_less c_l_told_well c_lower F_l_mixed_as_due
  have c_l_mixed_as_due := cal_mk g_l_mixed_as_due (glo_ok X G (x := "_law_mixed_as_due") (c.fact 98 (f := Hk.fa (.glo "_law_mixed_as_due")))) F_l_mixed_as_due.kp (FunD.bindsN (ps := Lw.P_l_mixed_as_due) F_l_mixed_as_due fun _ _ _ _ _ _ us hl => match us, hl with | [_, _, _, _], _ => rfl) .nil
  have g_l_wrong_pair := Lw.ok_l_wrong_pair (P := L.prog) (w := w) (base := base) T c_l_choice c_l_pick F_l_wrong_pair
  have c_l_wrong_pair := cal_mk g_l_wrong_pair (glo_ok X G (x := "_law_wrong_pair") (c.fact 99 (f := Hk.fa (.glo "_law_wrong_pair")))) F_l_wrong_pair.kp (FunD.bindsN (ps := Lw.P_l_wrong_pair) F_l_wrong_pair fun _ _ _ _ _ _ us hl => match us, hl with | [_, _, _], _ => rfl) .nil
  have g_l_wrong_rows_refused := Lw.ok_l_wrong_rows_refused (P := L.prog) (w := w) (base := base) T c_World_init c_l_integer_h c_l_pick c_l_wrong_pair F_l_wrong_rows_refused
  have c_l_wrong_rows_refused := cal_mk g_l_wrong_rows_refused (glo_ok X G (x := "_law_wrong_rows_refused") (c.fact 100 (f := Hk.fa (.glo "_law_wrong_rows_refused")))) F_l_wrong_rows_refused.kp (FunD.bindsN (ps := Lw.P_l_wrong_rows_refused) F_l_wrong_rows_refused fun _ _ _ _ _ _ us hl => match us, hl with | [_, _], _ => rfl) .nil
  have g_l_spots_known := Lw.ok_l_spots_known (P := L.prog) (w := w) (base := base) T c_is_spot c_l_choice c_l_spot_like F_l_spots_known
  have c_l_spots_known := cal_mk g_l_spots_known (glo_ok X G (x := "_law_spots_known") (c.fact 101 (f := Hk.fa (.glo "_law_spots_known")))) F_l_spots_known.kp (FunD.bindsN (ps := Lw.P_l_spots_known) F_l_spots_known fun _ _ _ _ _ _ us hl => match us, hl with | [_, _], _ => rfl) .nil
  have g_law := Lw.ok_law (P := L.prog) (w := w) (base := base) T c_World_init c_l_bag_of c_l_choice c_l_drawn_ratio c_l_equal_as_due c_l_gaps_told_well c_l_lookalikes c_l_mixed_as_due c_l_pick c_l_shuffled c_l_some c_l_some_spots c_l_spots_known c_l_stranger c_l_strangers_refused c_l_told_well c_l_wrong_rows_refused F_law
  exact g_law
end Hd
open PySem PySem.W PySem.Calls PyProof.Rows
theorem PySem.Challenge.cw_ellwarden_k26_worlds_holds : PySem.Challenge.rw_ellwarden_k26_worlds.Holds := by
  w_on; o_law
  refine HandSHeadRun.head_imp (r := Hd.R) (q := Hd.V) (H := Hd.hk) (ob := Hk.obsR Hd.fb Hd.fn Hd.xs) (M := 6000) (loose := Hd.names) (d := HandSHeadRun.topDef Hd.R.prog 52) (kwd := []) (fun s => Hk.obsR_eq s)
    Hd.run (by kernel_rfl) (by kernel_rfl) (by kernel_rfl) (by rfl) (by first | assumption | decide +kernel) (by decide +kernel) ⟨rfl, rfl, rfl, rfl, rfl, by decide +kernel⟩ ?hw ?hc
  case hw => w_witness2
  case hc =>
    refine Uv.walk_g (l := Hd.L) (n := 63) (k := 9) (x := "_law_script") rfl (by decide) (by kernel_rfl) ⟨rfl, by decide, by decide⟩ ?F
    intro w mg fa h Y G hmg0
    obtain ⟨K, KX, c⟩ := Y
    have hmg : mg ("law" : PySem.Str) = some (.ref fa) := by
      have e : (HandSHeadRun.topDef Hd.R.prog 52).name = ("law" : PySem.Str) := by kernel_rfl
      rw [← e]
      exact hmg0
    obtain ⟨fd, hb, hF⟩ := Hd.chain (w := w) KX G hmg c
    exact ⟨K, fd, _, KX, hb, fun H a ns hl hbits hS => ⟨a, ns, rfl, hS, hl, fun z hz => Uv.bits_log (hbits z hz), fun _ => rfl⟩, fun base _ _ => hF base⟩
