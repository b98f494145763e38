import PyProof.Rows.All
import Wide.All
import OpenK.AllK
import Wide.FinOn
import HandS.ForMost
import HandS.Exc
import HandS.ExcOwn
import HandS.ExcCtx
import HandS.ExcIs
import HandS.HotCalls
import HandS.IsInst
import HandS.Flow
import HandS.Style
import HandS.SortInts
import HandS.Deep
import HandS.WordsExc
import PySem.Challenge.RW_stalehands_k02_numbers
set_option Elab.async false
set_option linter.all false
set_option maxRecDepth 100000
set_option maxHeartbeats 4000000
/-! Part one: a goal-directed form of the hand layer. Each judgement is put as a statement about one state,
so that a proof walks the text from the left and chooses its rule when the operands are known. -/
namespace Sh
open PySem PySem.Spec L2

abbrev St := L2.St
structure We (X : Cx) (e : Expr) (σ : St) (H : Hp) (Q : VK) : Prop where
  run : ∀ (pins : List (Addr × Obj)) (s : Shared), Inv X pins σ H s →
    wpAny (model X.prog X.w) X.A (eval e X.env) (EP X pins σ Q) X.xe s
structure Wt (X : Cx) (e : Expr) (σ : St) (H : Hp) (Q : Bool → Hp → Prop) : Prop where
  run : ∀ (pins : List (Addr × Obj)) (s : Shared), Inv X pins σ H s →
    wpAny (model X.prog X.w) X.A (isTrue e X.env (eval e X.env)) (TP X pins σ Q) X.xe s
structure Ww (X : Cx) (e : Expr) (σ : St) (H : Hp) (Q : Bool → Hp → Prop) : Prop where
  run : ∀ (whole : Sem Value) (pins : List (Addr × Obj)) (s : Shared), Inv X pins σ H s →
    wpAny (model X.prog X.w) X.A (isTrue e X.env whole) (TP X pins σ Q) X.xe s
structure Wa (X : Cx) (es : List Expr) (σ : St) (H : Hp) (Q : List V → Hp → Prop) : Prop where
  run : ∀ (pos : Pos) (pins : List (Addr × Obj)) (s : Shared), Inv X pins σ H s →
    wpAny (model X.prog X.w) X.A (spliced (backTo pos (starEach es X.env))) (AP X pins σ Q) X.xe s
structure Ws (X : Cx) (st : Stmt) (D : Ends) (σ : St) (H : Hp) : Prop where
  run : ∀ (pins : List (Addr × Obj)) (s : Shared), Inv X pins σ H s →
    wpAny (model X.prog X.w) X.A (exec st X.env) (SP X pins D) X.xe s
structure Wb (X : Cx) (st : List Stmt) (D : Ends) (σ : St) (H : Hp) : Prop where
  run : ∀ (pins : List (Addr × Obj)) (s : Shared), Inv X pins σ H s →
    wpAny (model X.prog X.w) X.A (execs st X.env) (SP X pins D) X.xe s
structure Wg (X : Cx) (tg : Expr) (v : V) (σ : St) (H : Hp) (Q : St → Hp → Prop) : Prop where
  run : ∀ (pins : List (Addr × Obj)) (s : Shared) (u : Value), Inv X pins σ H s → RelV v u →
    wpAny (model X.prog X.w) X.A (assign tg X.env u) (fun _ s' => ∃ σ' H', Inv X pins σ' H' s' ∧ Q σ' H') X.xe s
structure Wop (X : Cx) (f : Value → Value → Sem Value) (x y : V) (H : Hp) (Q : VK) : Prop where
  run : ∀ (pins : List (Addr × Obj)) (s : Shared) (σ : St) (u v : Value), Inv X pins σ H s → RelV x u → RelV y v →
    wpAny (model X.prog X.w) X.A (f u v) (EP X pins σ Q) X.xe s
structure Wun (X : Cx) (f : Value → Sem Value) (x : V) (H : Hp) (Q : VK) : Prop where
  run : ∀ (pins : List (Addr × Obj)) (s : Shared) (σ : St) (u : Value), Inv X pins σ H s → RelV x u →
    wpAny (model X.prog X.w) X.A (f u) (EP X pins σ Q) X.xe s
structure Wcall (X : Cx) (f : Value) (xs : List V) (H : Hp) (Q : VK) : Prop where
  run : ∀ (pins : List (Addr × Obj)) (s : Shared) (σ : St) (us : List Value), Inv X pins σ H s → Vals xs us →
    wpAny (model X.prog X.w) X.A (call f us) (EP X pins σ Q) X.xe s

section
variable {X : Cx} {e : Expr} {t : TE} {σ : St} {H : Hp} {Q : VK}
theorem We.pe : PE X e (We X e) := ⟨fun pins s _ _ _ I h => h.run pins s I⟩
theorem Wt.pt : PT X e (Wt X e) := ⟨fun pins s _ _ _ I h => h.run pins s I⟩
theorem Ww.pw : PW X e (Ww X e) := ⟨fun wh pins s _ _ _ I h => h.run wh pins s I⟩
theorem Wa.pa {es : List Expr} : PA X es (Wa X es) := ⟨fun pos pins s _ _ _ I h => h.run pos pins s I⟩
theorem Ws.ps {st : Stmt} : PS X st (Ws X st) := ⟨fun pins s _ _ _ I h => h.run pins s I⟩
theorem Wb.pss {st : List Stmt} : PSs X st (Wb X st) := ⟨fun pins s _ _ _ I h => h.run pins s I⟩
theorem Wg.pg {tg : Expr} : PG X tg (Wg X tg) := ⟨fun pins s _ _ _ u _ I r h => h.run pins s u I r⟩
theorem Wop.op {f : Value → Value → Sem Value} : OpR X f (Wop X f) := fun pins s σ _ _ _ _ _ _ I r1 r2 h => h.run pins s σ _ _ I r1 r2
theorem Wun.un {f : Value → Sem Value} : UnR X f (Wun X f) := fun pins s σ _ _ _ _ I r h => h.run pins s σ _ I r
theorem Wcall.cr {f : Value} : CallR X f (Wcall X f) := fun pins s σ _ _ _ _ I r h => h.run pins s σ _ I r
theorem of_pe (h : PE X e t) (q : t σ H Q) : We X e σ H Q := ⟨fun pins s I => h.run pins s σ H Q I q⟩
theorem of_pt {tt : TT} {Q : Bool → Hp → Prop} (h : PT X e tt) (q : tt σ H Q) : Wt X e σ H Q := ⟨fun pins s I => h.run pins s σ H Q I q⟩
theorem of_pw {tt : TT} {Q : Bool → Hp → Prop} (h : PW X e tt) (q : tt σ H Q) : Ww X e σ H Q := ⟨fun wh pins s I => h.run wh pins s σ H Q I q⟩
theorem of_pa {es : List Expr} {ta : TA} {Q : List V → Hp → Prop} (h : PA X es ta) (q : ta σ H Q) : Wa X es σ H Q := ⟨fun pos pins s I => h.run pos pins s σ H Q I q⟩
theorem of_ps {st : Stmt} {ts : TS} {D : Ends} (h : PS X st ts) (q : ts D σ H) : Ws X st D σ H := ⟨fun pins s I => h.run pins s σ H D I q⟩
theorem of_pss {st : List Stmt} {ts : TS} {D : Ends} (h : PSs X st ts) (q : ts D σ H) : Wb X st D σ H := ⟨fun pins s I => h.run pins s σ H D I q⟩
theorem of_pg {tg : Expr} {g : TG} {v : V} {Q : St → Hp → Prop} (h : PG X tg g) (q : g v σ H Q) : Wg X tg v σ H Q := ⟨fun pins s u I r => h.run pins s σ H v u Q I r q⟩
theorem of_op {f : Value → Value → Sem Value} {r : R2} {x y : V} (h : OpR X f r) (q : r x y H Q) : Wop X f x y H Q := ⟨fun pins s σ u v I r1 r2 => h pins s σ H x y u v Q I r1 r2 q⟩
theorem of_un {f : Value → Sem Value} {r : V → Hp → VK → Prop} {x : V} (h : UnR X f r) (q : r x H Q) : Wun X f x H Q := ⟨fun pins s σ u I r1 => h pins s σ H x u Q I r1 q⟩
theorem of_cr {f : Value} {r : List V → Hp → VK → Prop} {xs : List V} (h : CallR X f r) (q : r xs H Q) : Wcall X f xs H Q := ⟨fun pins s σ us I r1 => h pins s σ H xs us Q I r1 q⟩
end
end Sh
namespace Sh
open PySem PySem.Spec L2 PyProof.Rows

/-- a name of the frame: its slot, that it is seen there, that it may be stored -/
structure Nm (N : List Str) (env : Env) (i : Nat) (x : Str) : Prop where
  at' : N[i]? = some x
  vis : Vis env.scope x
  hd : (x == ("__debug__" : Str)) = false
  hc : (x == ("__classdict__" : Str)) = false
/-- .. that may be stored -/
structure Nl (N : List Str) (env : Env) (fn' : Str → Bool) (i : Nat) (x : Str) : Prop where
  at' : N[i]? = some x
  loc : Loc env.scope x
  fn : fn' x = true ∨ env.scope.names.lookup x = some .local
/-- a global name of the module -/
structure Gd (env : Env) (x : Str) : Prop where
  gl : env.kindOf x = some .globalImplicit
  hd : (x == ("__debug__" : Str)) = false
structure Gn (env : Env) (mg' : Str → Option Value) (x : Str) (u : Value) : Prop where
  gl : env.kindOf x = some .globalImplicit
  hd : (x == ("__debug__" : Str)) = false
  mg : mg' x = some u
/-- a built-in name -/
structure Bn (env : Env) (mg' : Str → Option Value) (x : Str) (u : Value) : Prop where
  gl : env.kindOf x = some .globalImplicit
  hd : (x == ("__debug__" : Str)) = false
  mg : mg' x = none
  bt : bootBuiltins x = some u
  nn : x ≠ "__name__"

section
variable {X : Cx} {a b c e o : Expr} {es rest : List Expr} {σ : St} {H : Hp} {Q : VK} {QB : Bool → Hp → Prop} {QA : List V → Hp → Prop} {D : Ends} {pos p1 p2 : Pos} {v x y : V} {i j : Int} {n : Nat}

theorem wa_imp {Q' : List V → Hp → Prop} (q : Wa X es σ H QA) (h : ∀ vs H1, QA vs H1 → Q' vs H1) : Wa X es σ H Q' :=
  ⟨fun pos pins s I => thn (q.run pos pins s I) fun us s1 ⟨vs, H1, I1, r, q1⟩ => ⟨vs, H1, I1, r, h vs H1 q1⟩⟩
theorem we_imp {Q' : VK} (q : We X e σ H Q) (h : ∀ v H1, Q v H1 → Q' v H1) : We X e σ H Q' :=
  ⟨fun pins s I => thn (q.run pins s I) fun u s1 ⟨v, H1, I1, r, q1⟩ => ⟨v, H1, I1, r, h v H1 q1⟩⟩
/-! names, constants -/
theorem we_var {k : Nat} {z : Str} (m : Nm X.N X.env k z) (h : σ[k]? = some (some v)) (q : Q v H) : We X (.Name z pos) σ H Q := of_pe (pe_var m.at' m.vis m.hd m.hc) ⟨v, h, q⟩
theorem we_int (q : Q (.int i) H) : We X (.Constant (.int i) n pos) σ H Q := of_pe pe_int q
theorem we_bl {k : Bool} (q : Q (.bl k) H) : We X (.Constant (.bool k) n pos) σ H Q := of_pe pe_bl q
theorem we_non (q : Q .non H) : We X (.Constant .none n pos) σ H Q := of_pe pe_non q
theorem we_str {z : Str} (q : Q (.str z) H) : We X (.Constant (.str z) n pos) σ H Q := of_pe pe_str q
theorem we_glob {z : Str} {u : Value} (g : Gn X.env X.mg z u) (r : RelV v u) (q : Q v H) : We X (.Name z pos) σ H Q :=
  of_pe (pe_glob g.gl g.mg r g.hd) q
theorem we_blt {z : Str} {u : Value} (g : Bn X.env X.mg z u) (r : RelV v u) (q : Q v H) : We X (.Name z pos) σ H Q :=
  of_pe (pe_bltn g.gl g.mg g.bt r g.nn g.hd) q

/-! operators -/
theorem we_op {op : Operator} (q : We X a σ H fun x H1 => We X b σ H1 fun y H2 => Wop X (binaryOp op) x y H2 Q) : We X (.BinOp a op b pos) σ H Q := of_pe (pe_op Wop.op We.pe We.pe) q
theorem we_neg (q : We X a σ H fun x H1 => Wun X (unaryOp .USub) x H1 Q) : We X (.UnaryOp .USub a pos) σ H Q := of_pe (pe_un Wun.un We.pe) q
theorem we_not (q : We X a σ H fun x H1 => ∃ c, x = .bl c ∧ Q (.bl (!c)) H1) : We X (.UnaryOp .Not a pos) σ H Q := of_pe (pe_not We.pe) q
theorem we_cmp {op : CmpOp} (hm : behindInMarks op b = false) (q : We X a σ H fun x H1 => We X b σ H1 fun y H2 => Wop X (compareOp op) x y H2 Q) : We X (.Compare a [op] [b] pos) σ H Q :=
  of_pe (pe_cmpR Wop.op We.pe We.pe hm) q
theorem we_one {op : BoolOp} (q : We X a σ H Q) : We X (.BoolOp op [a] pos) σ H Q := of_pe (pe_one We.pe) q
theorem we_and (q : We X a σ H fun x H1 => ∃ c, x = .bl c ∧ if c = true then We X (.BoolOp .And (b :: rest) pos) σ H1 Q else Q (.bl false) H1) : We X (.BoolOp .And (a :: b :: rest) pos) σ H Q :=
  of_pe (pe_and We.pe We.pe) q
theorem we_or (q : We X a σ H fun x H1 => ∃ c, x = .bl c ∧ if c = true then Q (.bl true) H1 else We X (.BoolOp .Or (b :: rest) pos) σ H1 Q) : We X (.BoolOp .Or (a :: b :: rest) pos) σ H Q :=
  of_pe (pe_or We.pe We.pe) q
theorem we_ifx (q : Wt X c σ H fun k H1 => if k = true then We X a σ H1 Q else We X b σ H1 Q) : We X (.IfExp c a b pos) σ H Q := of_pe (pe_ifExp Wt.pt We.pe We.pe) q
theorem we_chain {op op' : CmpOp} {b c : Expr} (hm : lastMarks [op, op'] [b, c] = false)
    (q : We X a σ H fun x H1 => We X b σ H1 fun y H2 => Wop X (compareOp op) x y H2 fun z H3 => ∃ k, z = .bl k ∧
      if k = true then We X c σ H3 fun w H4 => Wop X (compareOp op') y w H4 Q else Q (.bl false) H3) : We X (.Compare a [op, op'] [b, c] pos) σ H Q :=
  of_pe (pe_chain Wop.op Wop.op We.pe We.pe We.pe hm) q

/-! tests -/
theorem wt_cmp {op : CmpOp} (hm : behindInMarks op b = false) (q : We X a σ H fun x H1 => We X b σ H1 fun y H2 => Wop X (compareOp op) x y H2 fun z H3 => ∃ k, z = .bl k ∧ QB k H3) : Wt X (.Compare a [op] [b] pos) σ H QB :=
  of_pt (pt_cmpR Wop.op We.pe We.pe hm) q
theorem wt_not (q : Wt X a σ H fun k H1 => QB (!k) H1) : Wt X (.UnaryOp .Not a pos) σ H QB := of_pt (pt_not Wt.pt) q
theorem wt_ww (q : Ww X e σ H QB) : Wt X e σ H QB := of_pt Ww.pw.pt q
theorem ww_and1 (q : Wt X a σ H QB) : Ww X (.BoolOp .And [a] pos) σ H QB := of_pw (pw_and1 Wt.pt) q
theorem ww_or1 (q : Wt X a σ H QB) : Ww X (.BoolOp .Or [a] pos) σ H QB := of_pw (pw_or1 Wt.pt) q
theorem ww_and (q : Wt X a σ H fun k H1 => if k = true then Ww X (.BoolOp .And (b :: rest) pos) σ H1 QB else QB false H1) : Ww X (.BoolOp .And (a :: b :: rest) pos) σ H QB := of_pw (pw_and Wt.pt Ww.pw) q
theorem ww_or (q : Wt X a σ H fun k H1 => if k = true then QB true H1 else Ww X (.BoolOp .Or (b :: rest) pos) σ H1 QB) : Ww X (.BoolOp .Or (a :: b :: rest) pos) σ H QB := of_pw (pw_or Wt.pt Ww.pw) q
theorem wt_val (q : We X e σ H fun z H1 => ∃ k, z = .bl k ∧ QB k H1)
    (he : ∀ whole, isTrue e X.env whole = (do let v ← whole; standAt e.pos; holding [v] (truthy v)) := by intro _; rfl) : Wt X e σ H QB := of_pt (pt_val We.pe he) q

/-! arguments, displays -/
theorem wa_nil (q : QA [] H) : Wa X [] σ H QA := of_pa pa_nil q
theorem wa_cons (q : We X e σ H fun x H1 => Wa X es σ H1 fun xs H2 => QA (x :: xs) H2) (hs : starEach (e :: es) X.env = (false, eval e X.env) :: starEach es X.env := by rfl) : Wa X (e :: es) σ H QA :=
  of_pa (pa_cons We.pe Wa.pa hs) q
theorem we_tup {k : Nat} (q : Wa X es σ H fun xs H1 => xs.length ≤ sizeLine ∧ ∀ p H2, H1 p = none → H2 = upd H1 p (.tup xs) → Q (.ref p) H2) : We X (.Tuple es k pos) σ H Q :=
  of_pe (pe_tup Wa.pa) (wa_imp q fun xs H1 h => ⟨h.1, fun p hp => h.2 p _ hp rfl⟩)
theorem we_lst (q : Wa X es σ H fun xs H1 => xs.length ≤ sizeLine ∧ ∀ p H2, H1 p = none → H2 = upd H1 p (.lst xs) → Q (.ref p) H2) : We X (.List es pos) σ H Q :=
  of_pe (pe_lst Wa.pa) (wa_imp q fun xs H1 h => ⟨h.1, fun p hp => h.2 p _ hp rfl⟩)
theorem we_dict0 (q : ∀ p H2, H p = none → H2 = upd H p (.dK []) → Q (.ref p) H2) : We X (.Dict [] [] pos) σ H Q := of_pe pe_dnewK fun p hp => q p _ hp rfl
theorem we_dict0T (q : ∀ p H2, H p = none → H2 = upd H p (.dT []) → Q (.ref p) H2) : We X (.Dict [] [] pos) σ H Q := of_pe pe_dnewT fun p hp => q p _ hp rfl

/-! fields -/
theorem we_fld {f : Str} (hb : attributeBase e f X.env (eval e X.env) = eval e X.env)
    (q : We X e σ H fun x H1 => ∃ a C dx fs v, x = .ref a ∧ H1 a = some (.ins C dx fs) ∧ Cls X.K C ∧ NoAttr X.K C f ∧ fs.lookup f = some v ∧ Q v H1) : We X (.Attribute e f pos) σ H Q :=
  of_pe (pe_fld We.pe hb) q

/-! subscripts -/
end
structure Wsub (X : Cx) (x y : V) (H : Hp) (Q : VK) : Prop where
  run : ∀ (value slice : Expr) (pins : List (Addr × Obj)) (s : Shared) (σ : St) (v u : Value), Inv X pins σ H s → RelV x v → RelV y u →
    subscripted slice false v u = operate [v, u] (getItem v u) → wpAny (model X.prog X.w) X.A (subscriptTail value slice v u) (EP X pins σ Q) X.xe s
section
variable {X : Cx} {a b c e o : Expr} {es rest : List Expr} {σ : St} {H : Hp} {Q : VK} {QB : Bool → Hp → Prop} {QA : List V → Hp → Prop} {D : Ends} {pos p1 p2 : Pos} {v x y : V} {i j : Int} {n : Nat} {p : Addr} {xs : List V}
theorem Wsub.ix : IxR X (Wsub X) := fun value slice pins s σ _ _ _ _ _ _ I rx ry h hs => h.run value slice pins s σ _ _ I rx ry hs
theorem of_ix {r : R2} (h : IxR X r) (q : r x y H Q) : Wsub X x y H Q := ⟨fun value slice pins s σ v u I rx ry hs => h value slice pins s σ H x y v u Q I rx ry q hs⟩
theorem we_sub (hs : PlainIx b) (q : We X a σ H fun x H1 => We X b σ H1 fun y H2 => Wsub X x y H2 Q) : We X (.Subscript a b pos) σ H Q := of_pe (pe_ix Wsub.ix We.pe We.pe hs) q
theorem ws_list (hp : SqL X.K H p xs) (hv : atI xs i = some v) (q : Q v H) : Wsub X (.ref p) (.int i) H Q := of_ix ix_list ⟨p, xs, i, v, rfl, rfl, hp, hv, q⟩
theorem ws_tup (hp : SqT X.K H p xs) (hv : atI xs i = some v) (q : Q v H) : Wsub X (.ref p) (.int i) H Q := of_ix ix_tup ⟨p, xs, i, v, rfl, rfl, hp, hv, q⟩
theorem ws_dict (hu : X.A.units + 1 < cLine) (g : DGet H p y (some v)) (q : Q v H) : Wsub X (.ref p) y H Q := by
  refine ⟨fun value slice pins s σ w u I rx ry hs => ?_⟩
  cases (show w = Value.ref p from rx)
  have hT := dict_typeIs I g
  have key := d_getItem (Q := EP X pins σ Q) (E := X.xe) hu I g ry fun w' s3 I3 r3 => ⟨v, H, I3, r3, q⟩
  unfold subscriptTail
  refine wpAny_bind ?_
  rw [getitemInPython_of_ne hT.not_modules]
  refine wpAny_bind (wpAny_specialOf hT PySem.F.slot_dict_getitem.lookup ?_)
  have rest : wpAny (model X.prog X.w) X.A (subscripted slice false (.ref p) u)
      (fun r s₃ => wpAny (model X.prog X.w) X.A (letTemporaryGo value (.ref p) r >>= fun _ => pure r) (EP X pins σ Q) X.xe s₃) X.xe s := by
    rw [hs]
    exact wpAny_operating (wpAny_mono key (fun r s₃ h₃ => wpAny_bind (wpAny_letTemporaryGo (wpAny_pure h₃))) fun _ _ z => z)
  first
    | exact wpAny_pure (wpAny_bind rest)
    | exact wpAny_bind (wpAny_pure (wpAny_bind rest))
    | exact wpAny_bind rest
theorem we_slice {lo hi : Option Expr} {tl th : TO} {r : V → Option Int → Option Int → Hp → VK → Prop} (hr : SlR X r) (hl : PO X lo tl) (hu : PO X hi th)
    (q : We X e σ H fun x H1 => tl σ H1 fun l H2 => th σ H2 fun u H3 => r x l u H3 Q) : We X (.Subscript e (.Slice lo hi none p2) pos) σ H Q := of_pe (pe_slice hr We.pe hl hu) q
theorem we_rev {k : Nat} {q1 q2 q3 : Pos} (q : We X e σ H fun x H1 => ∃ a xs, x = .ref a ∧ SqL X.K H1 a xs ∧ ∀ p H2, H1 p = none → H2 = upd H1 p (.lst xs.reverse) → Q (.ref p) H2) :
    We X (.Subscript e (.Slice none none (some (.UnaryOp .USub (.Constant (.int 1) k q1) q2)) q3) pos) σ H Q :=
  of_pe (pe_revL We.pe) (we_imp q fun x H1 ⟨a, xs, h1, h2, h3⟩ => ⟨a, xs, h1, h2, fun p hp => h3 p _ hp rfl⟩)

/-! calls of built-ins by name -/
theorem we_callB {z : Str} {id : String} (g : Bn X.env X.mg z (.builtin id)) (q : Wa X (e :: es) σ H fun vs H1 => Wcall X (.builtin id) vs H1 Q)
    (he : starEach (e :: es) X.env = (false, eval e X.env) :: starEach es X.env := by rfl) (hp : (backTo pos (starEach es X.env)).any (·.1) = false := by rfl) : We X (.Call (.Name z p1) (e :: es) [] pos) σ H Q :=
  of_pe (pe_callB Wcall.cr g.gl g.mg g.bt Wa.pa g.nn g.hd he hp) q
theorem we_callTy {z : Str} {T : String} (g : Bn X.env X.mg z (.type T)) (q : Wa X (e :: es) σ H fun vs H1 => Wcall X (.type T) vs H1 Q)
    (he : starEach (e :: es) X.env = (false, eval e X.env) :: starEach es X.env := by rfl) (hp : (backTo pos (starEach es X.env)).any (·.1) = false := by rfl) : We X (.Call (.Name z p1) (e :: es) [] pos) σ H Q :=
  of_pe (pe_callTy Wcall.cr g.gl g.mg g.bt Wa.pa g.nn g.hd he hp) q
end
end Sh
namespace Sh
open PySem PySem.Spec L2 PyProof.Rows
abbrev CN (X : Cx) : CXT := L2N.CX X.prog X.w
/-- a def of the text as it may be called: where it stands, its level, what it promises -/
structure Dn (P : Program) (w : World) (K : PySem.W.Frag) (mg : Str → Option Value) (base : Heap) (k : Nat) (x : Str) (ps : List Str) (sp : Sp) : Prop where
  ex : ∃ (f : Addr) (fd : FuncData), FnOk P w K mg base (L2N.CX P w) k f fd ps sp ∧ mg x = some (.ref f) ∧ PySem.W.keepIn K (.ref f) = true ∧ Binds K fd ps []
/-- a method of the class at C -/
structure Mn (P : Program) (w : World) (K : PySem.W.Frag) (mg : Str → Option Value) (base : Heap) (k : Nat) (C : Addr) (m : Str) (ps : List Str) (sp : Sp) : Prop where
  ex : ∃ (f : Addr) (fd : FuncData), FnOk P w K mg base (L2N.CX P w) k f fd ps sp ∧ Meth K C m f ∧ Binds K fd ps []
/-- the class at C, as it is made -/
structure Cn (P : Program) (w : World) (K : PySem.W.Frag) (mg : Str → Option Value) (base : Heap) (k : Nat) (x : Str) (C : Addr) (ps : List Str) (sp : Sp) : Prop where
  ex : ∃ (f : Addr) (fd : FuncData), FnOk P w K mg base (L2N.CX P w) k f fd ps sp ∧ mg x = some (.ref C) ∧ Mk K C f ∧ Binds K fd ps []
abbrev DnX (X : Cx) := Dn X.prog X.w X.K X.mg X.base
abbrev MnX (X : Cx) := Mn X.prog X.w X.K X.mg X.base
abbrev CnX (X : Cx) := Cn X.prog X.w X.K X.mg X.base

section
variable {X : Cx} {a b c e o : Expr} {es rest : List Expr} {σ : St} {H : Hp} {Q : VK} {QB : Bool → Hp → Prop} {QA : List V → Hp → Prop} {D : Ends} {pos p1 p2 apos : Pos} {v x y : V} {i j : Int} {n : Nat} {p : Addr} {xs : List V}
  {W : WX} {sp : Sp} {k l : Nat} {ps : List Str} {z m : Str} {C : Addr}

/-! calls of the text's own defs -/
theorem we_call (tk : L2N.Takes X W) (hr : Room l X.A) (gl : Gd X.env z) (G : DnX X k z ps sp) (hk : k ≤ l) (q : Wa X (e :: es) σ H fun vs H1 => sp vs H1 Q fun cls d H2 => W cls d σ H2)
    (he : starEach (e :: es) X.env = (false, eval e X.env) :: starEach es X.env := by rfl)
    (hp : (backTo pos (starEach es X.env)).any (·.1) = false := by rfl) : We X (.Call (.Name z p1) (e :: es) [] pos) σ H Q := by
  obtain ⟨f, fd, F, hm, kp, hb⟩ := G.ex
  exact of_pe (pe_callS (E := fun σ cls d H => W cls d σ H) F (hr.mono hk) gl.gl hm kp hb (fun σ => L2N.passAt tk σ) Wa.pa gl.hd he hp) q
/-- a call of no exception, in any context -/
theorem passN {CXt : CXT} (E : XK) (h : ∀ cls d H, ¬ E cls d H) : Passes (CN X) X E := fun _ _ _ _ _ _ _ z => by
  obtain ⟨_, _, _, cls, d, _, _, _, _, _, _, _, w⟩ := z
  exact (h _ _ _ w).elim
theorem meth_at {us : List Value} {vs : List V} {pins : List (Addr × Obj)} {s : Shared} {f : Addr} {fd : FuncData} (tk : L2N.Takes X W) (hr : Room k X.A) (F : FnOk X.prog X.w X.K X.mg X.base (CN X) k f fd ps sp) (hb : Binds X.K fd ps [])
    (I : Inv X pins σ H s) (r : Vals vs us) (q : sp vs H Q fun cls d H2 => W cls d σ H2) : wpAny (model X.prog X.w) X.A (call (.ref f) us) (EP X pins σ Q) X.xe s :=
  run_fnS (E := fun σ cls d H => W cls d σ H) F hr hb (L2N.passAt tk σ) I r q
theorem we_meth {pl : Sem Bool} (tk : L2N.Takes X W) (hr : Room l X.A) (hc : Cls X.K C) (G : MnX X k C m ps sp) (hk : k ≤ l)
    (q : We X o σ H fun x H1 => ∃ a dx fs, x = .ref a ∧ H1 a = some (.ins C dx fs) ∧ fs.lookup m = none ∧ Wa X (e :: es) σ H1 fun vs H2 => sp (.ref a :: vs) H2 Q fun cls d H3 => W cls d σ H3)
    (hst : starEach (e :: es) X.env = (false, eval e X.env) :: starEach es X.env := by rfl) (hpl : (backTo pos (starEach es X.env)).any (·.1) = false := by rfl)
    (ht : eval (.Call (.Attribute o m apos) (e :: es) [] pos) X.env = (do
      let rv ← eval o X.env
      standAt apos.atName
      let (g, fst) ← holding [rv] (getMethod rv m pl)
      callWith pos g fst (backTo pos (starEach (e :: es) X.env)) (backToKw pos (keywordEach [] X.env))) := by rfl) : We X (.Call (.Attribute o m apos) (e :: es) [] pos) σ H Q := by
  obtain ⟨f, fd, F, hm, hb⟩ := G.ex
  refine ⟨fun pins s I => PySem.W.methodCall_KW (pl := pl) (thn (q.run pins s I) fun u s1 hu => ?_) ht⟩
  obtain ⟨x, H1, I1, rx, a, dx, fs, ex, ea, lk, q1⟩ := hu
  subst ex
  cases (show u = Value.ref a from rx)
  refine getmeth_ok I1 ea hc hm lk (PySem.W.callWith_K (first := [.ref a]) (h₀ := X.base) I.ok.mod.kin hm.kp ?_ hst hpl)
  refine thn (q1.run pos pins s1 I1) fun us s2 hs => ?_
  obtain ⟨vs, H2, I2, r, q2⟩ := hs
  exact ⟨I2.kIn, meth_at (us := .ref a :: us) (vs := .ref a :: vs) tk (hr.mono hk) F hb I2 (.cons rfl r) q2⟩
theorem we_meth0 {pl : Sem Bool} (tk : L2N.Takes X W) (hr : Room l X.A) (hc : Cls X.K C) (G : MnX X k C m ps sp) (hk : k ≤ l)
    (q : We X o σ H fun x H1 => ∃ a dx fs, x = .ref a ∧ H1 a = some (.ins C dx fs) ∧ fs.lookup m = none ∧ sp [.ref a] H1 Q fun cls d H3 => W cls d σ H3)
    (ht : eval (.Call (.Attribute o m apos) [] [] pos) X.env = (do
      let rv ← eval o X.env
      standAt apos.atName
      let (g, fst) ← holding [rv] (getMethod rv m pl)
      callWith pos g fst (backTo pos (starEach [] X.env)) (backToKw pos (keywordEach [] X.env))) := by rfl) : We X (.Call (.Attribute o m apos) [] [] pos) σ H Q := by
  obtain ⟨f, fd, F, hm, hb⟩ := G.ex
  refine ⟨fun pins s I => PySem.W.methodCall_KW (pl := pl) (thn (q.run pins s I) fun u s1 hu => ?_) ht⟩
  obtain ⟨x, H1, I1, rx, a, dx, fs, ex, ea, lk, q1⟩ := hu
  subst ex
  cases (show u = Value.ref a from rx)
  refine getmeth_ok I1 ea hc hm lk (PySem.W.callWith_K0 (first := [.ref a]) I1.kIn hm.kp ?_)
  exact meth_at (us := [.ref a]) (vs := [.ref a]) tk (hr.mono hk) F hb I1 (.cons rfl .nil) q1
/-- a new instance, its __init__ by its promise -/
theorem make_at {pins : List (Addr × Obj)} {s : Shared} {us : List Value} {vs : List V} {f : Addr} {fd : FuncData} (tk : L2N.Takes X W) (M : Mk X.K C f) (F : FnOk X.prog X.w X.K X.mg X.base (CN X) k f fd ps sp) (hr : Room (k + 1) X.A)
    (hb : Binds X.K fd ps []) (I : Inv X pins σ H s) (r : Vals vs us)
    (h : ∀ x dx, H x = none → H dx = none → dx ≠ x → sp (.ref x :: vs) (upd (upd H dx (.own x)) x (.ins C dx [])) (fun v H2 => v = .non ∧ Q (.ref x) H2) fun cls d H3 => W cls d σ H3) :
    wpAny (model X.prog X.w) X.A (call (.ref C) us) (EP X pins σ Q) X.xe s := by
  have N := s.heap.objs.size
  have fr1 : H (s.heap.objs.size + 1) = none := I.hok.fresh (Nat.le_succ _)
  have fr0 : H s.heap.objs.size = none := I.hok.fresh (Nat.le_refl _)
  have h1 := h _ _ fr1 fr0 (Nat.ne_of_lt (Nat.lt_succ_self _))
  have J := Inv.made (C := C) I
  have r1 : Vals (V.ref (s.heap.objs.size + 1) :: vs) (Value.ref (s.heap.objs.size + 1) :: us) := .cons rfl r
  have ln : (Value.ref (s.heap.objs.size + 1) :: us).length = ps.length := by rw [← r1.length]; exact F.len _ _ _ _ h1
  have bd := hb _ (Value.ref (s.heap.objs.size + 1) :: us) J.kIn (by rw [List.append_nil]; exact ln)
  rw [List.append_nil] at bd
  have run := F.run _ X.stack _ _ ⟨Value.ref (s.heap.objs.size + 1) :: us, []⟩ _ _ _ _ (hr.make C us []) (J.env0.make C us []) bd r1 h1
  refine wpAny_call (make_map (f := f) I.kIn M.makes M.init (beq_iff_eq.mp M.fn) (codeAny_mono run fun res s' g => ?_))
  cases res with
  | error e => exact tk e s' (L2N.XE.of_call J (fun _ _ _ w => w) g)
  | ok fl =>
    cases fl with
    | ret u =>
      have af := J.after g
      obtain ⟨v, H', J', rv, ev, q3⟩ := af
      cases ev
      exact ⟨rv, V.ref (s.heap.objs.size + 1), H', J', rfl, q3⟩
    | next => exact False.elim g
    | brk => exact False.elim g
    | cont => exact False.elim g
theorem we_make (tk : L2N.Takes X W) (hr : Room l X.A) (gl : Gd X.env z) (G : CnX X k z C ps sp) (hk : k + 1 ≤ l)
    (q : Wa X (e :: es) σ H fun vs H1 => ∀ x dx, H1 x = none → H1 dx = none → dx ≠ x → sp (.ref x :: vs) (upd (upd H1 dx (.own x)) x (.ins C dx [])) (fun v H2 => v = .non ∧ Q (.ref x) H2) fun cls d H3 => W cls d σ H3)
    (he : starEach (e :: es) X.env = (false, eval e X.env) :: starEach es X.env := by rfl)
    (hp : (backTo pos (starEach es X.env)).any (·.1) = false := by rfl) : We X (.Call (.Name z p1) (e :: es) [] pos) σ H Q := by
  obtain ⟨f, fd, F, hm, M, hb⟩ := G.ex
  refine ⟨fun pins s I => wpAny_Call_Name_kw (ld_glob I gl.gl hm (PySem.W.callWith_K (h₀ := X.base) I.ok.mod.kin M.kp ?_ he hp) gl.hd)⟩
  refine thn (q.run pos pins s I) fun us s1 hu => ?_
  obtain ⟨vs, H1, I1, r, q1⟩ := hu
  exact ⟨I1.kIn, make_at tk M F (hr.mono hk) hb I1 r q1⟩

/-! methods of built-in types -/
theorem we_bm {T id : String} {r : V → List V → Hp → VK → Prop} (pa : PlainAttrs T) (slot : Slot T m id) (hty : typeOf (.builtin id) = pure (.type "method_descriptor")) (hm : MtR X id r)
    (q : We X o σ H fun x H1 => tyV X.K T x H1 ∧ Wa X (e :: es) σ H1 fun ws H2 => r x ws H2 Q)
    (hbase : attributeBase o m X.env (eval o X.env) = eval o X.env := by rfl)
    (hfew : ((backTo pos (starEach (e :: es) X.env)).all (fun w => !w.1) && (backToKw pos (keywordEach [] X.env)).all (fun w => w.1.isSome)
      && decide ((e :: es).length + ([] : List Keyword).length + (if ([] : List Keyword).isEmpty then 0 else 1) < 30)) = true := by rfl)
    (hline : (apos.endLine == pos.line) = true := by rfl) (hs : starEach (e :: es) X.env = (false, eval e X.env) :: starEach es X.env := by rfl)
    (hplain : (backTo pos (starEach es X.env)).any (·.1) = false := by rfl) : We X (.Call (.Attribute o m apos) (e :: es) [] pos) σ H Q :=
  of_pe (pe_bm pa slot hty hm We.pe Wa.pa hbase hfew hline hs hplain) q
theorem we_bm0 {T id : String} {r : V → List V → Hp → VK → Prop} (pa : PlainAttrs T) (slot : Slot T m id) (hty : typeOf (.builtin id) = pure (.type "method_descriptor")) (hm : MtR X id r)
    (q : We X o σ H fun x H1 => tyV X.K T x H1 ∧ r x [] H1 Q)
    (hbase : attributeBase o m X.env (eval o X.env) = eval o X.env := by rfl) (hline : (apos.endLine == pos.line) = true := by rfl) : We X (.Call (.Attribute o m apos) [] [] pos) σ H Q :=
  of_pe (pe_bm0 pa slot hty hm We.pe hbase hline) q

/-! statements -/
variable {st : Stmt} {sts sts2 : List Stmt}
theorem wb_nil (q : D.nx σ H) : Wb X [] D σ H := of_pss pss_nil q
theorem wb_cons (q : Ws X st { D with nx := fun σ' H' => Wb X sts D σ' H' } σ H) : Wb X (st :: sts) D σ H := of_pss (pss_cons Ws.ps Wb.pss) q
theorem wb_one (q : Ws X st D σ H) : Wb X [st] D σ H := of_pss (pss_one Ws.ps) q
theorem ws_expr (q : We X e σ H fun _ H1 => D.nx σ H1) (hs : swapsWith e none pos.line X.env = pure false := by rfl) : Ws X (.Expr e pos) D σ H := of_ps (ps_expr We.pe hs) q
theorem ws_ret (q : We X e σ H D.rt) : Ws X (.Return (some e) pos) D σ H := of_ps (ps_ret We.pe) q
theorem ws_if (q : Wt X c σ H fun k H1 => if k = true then Wb X sts D σ H1 else Wb X sts2 D σ H1) : Ws X (.If c sts sts2 pos) D σ H := of_ps (ps_if Wt.pt Wb.pss Wb.pss) q
theorem ws_pass (q : D.nx σ H) : Ws X (.Pass pos) D σ H := of_ps ps_pass q
/-- a name is stored -/
theorem wg_name {i : Nat} {QS : St → Hp → Prop} (nl : Nl X.N X.env X.fn i z) (hN : X.N.Nodup) (q : QS (σ.set i (some v)) H) : Wg X (.Name z p1) v σ H QS :=
  of_pg (pg_name hN nl.at' nl.loc nl.fn) q
theorem ws_asg {tg : Expr} (q : We X e σ H fun w H1 => Wg X tg w σ H1 D.nx) (hs : swapsWithSole [tg] e pos.line X.env = pure false := by rfl) (hw : swappedStores [tg] e X.env = pure none := by rfl)
    (h1 : (assignEach [tg] X.env).map (·.2) = [assign tg X.env] := by rfl) : Ws X (.Assign [tg] e pos) D σ H := of_ps (ps_asg We.pe Wg.pg hs hw h1) q
theorem ws_asgN (q : We X e σ H fun w H1 => Wg X (.Name z p1) w σ H1 D.nx) (hs : swapsWithSole [.Name z p1] e pos.line X.env = pure false := by rfl) (hw : swappedStores [.Name z p1] e X.env = pure none := by rfl) :
    Ws X (.Assign [.Name z p1] e pos) D σ H := ws_asg q hs hw rfl
theorem ws_fld {f : Str} (q : We X e σ H fun y H1 => We X o σ H1 fun x H2 => ∃ a C dx fs, x = .ref a ∧ H2 a = some (.ins C dx fs) ∧ Cls X.K C ∧ NoAttr X.K C f ∧ fs.length < 1000 ∧ D.nx σ (upd H2 a (.ins C dx (putF f y fs))))
    (hs : swapsWith e (some (.Attribute o f p1)) pos.line X.env = pure false := by rfl) : Ws X (.Assign [.Attribute o f p1] e pos) D σ H := of_ps (ps_fld We.pe We.pe hs) q
theorem ws_dput (hu : X.A.units + 1 < cLine) (q : We X e σ H fun w H1 => We X a σ H1 fun x H2 => We X b σ H2 fun y H3 => ∃ d H4, x = .ref d ∧ DPut H3 d y w H4 ∧ D.nx σ H4)
    (hs : swapsWith e (some (.Subscript a b p1)) pos.line X.env = pure false := by rfl) : Ws X (.Assign [.Subscript a b p1] e pos) D σ H := of_ps (ps_dput hu We.pe We.pe We.pe hs) q
theorem wg_set {QS : St → Hp → Prop} {t : TSet} (hs : PSet X t) (q : We X a σ H fun o H1 => We X b σ H1 fun i H2 => t o i v H2 fun H3 => QS σ H3)
    (ha : ∀ w, assign (.Subscript a b pos) X.env w = (do
      let rv ← holding [w] (eval a X.env)
      let jv ← holding [w, rv] (eval b X.env)
      standAt pos
      holding [w, rv, jv] (setItem rv jv w)
      release [w, rv, jv] []) := by intro _; rfl) : Wg X (.Subscript a b pos) v σ H QS := of_pg (pg_sub We.pe We.pe hs ha) q
/-- xs[i] = e, xs a list -/
theorem ws_lset (q : We X e σ H fun w H1 => We X a σ H1 fun o H2 => We X b σ H2 fun i H3 => rSetL o i w H3 fun H4 => D.nx σ H4) (hs : swapsWithSole [.Subscript a b p1] e pos.line X.env = pure false := by rfl)
    (hw : swappedStores [.Subscript a b p1] e X.env = pure none := by rfl)
    (ha : ∀ w, assign (.Subscript a b p1) X.env w = (do
      let rv ← holding [w] (eval a X.env)
      let jv ← holding [w, rv] (eval b X.env)
      standAt p1
      holding [w, rv, jv] (setItem rv jv w)
      release [w, rv, jv] []) := by intro _; rfl) : Ws X (.Assign [.Subscript a b p1] e pos) D σ H :=
  ws_asg (we_imp q fun w H1 h => wg_set set_list h ha) hs hw rfl
theorem ws_raise (hc : X.calm = true) (tk : L2N.Takes X W) {B newId initId : String} {bmB : List Value} {mm : Str} {q1 q2 q3 : Pos} (F : ExcBaseFacts B newId initId bmB)
    (hx : PySem.W.excIn X.K C bmB newId = true) (gC : X.mg z = some (.ref C)) (kC : PySem.W.keepIn X.K (.ref C) = true) (r : Raises X (.ref C)) (hg : Gd X.env z) (q : W (.ref C) none σ H) : Ws X (.Raise (some (.Call (.Name z q1) [.Constant (.str mm) n q2] [] q3)) none pos) D σ H :=
  of_ps (L2N.ps_raise hc tk (L2N.pmk_own F hx gC kC r hg.gl hg.hd)) q
end
end Sh
namespace Sh
open PySem PySem.Spec L2 PyProof.Rows
/-- the names of a def -/
structure Nf (X : Cx) (N : List Str) (sc : Scope) : Prop where
  hN : X.N = N
  hs : X.env.scope = sc
  fn : ∀ x, X.fn x = true
/-- the body of a def is being run -/
structure Bd (X : Cx) (k : Nat) (N : List Str) (sc : Scope) : Prop where
  nf : Nf X N sc
  hr : Room k X.A
  nd : X.N.Nodup
  calm : X.calm = true
  stk : X.stack = X.env :: X.outer
  frm : X.env.frame = some X.env.locals
  po : PassesOwn (model X.prog X.w) X.A X.env X.xe
section
variable {X : Cx} {k : Nat} {N : List Str} {sc : Scope} {x : Str} {i : Nat}
theorem Bd.hu (B : Bd X k N sc) : X.A.units + 1 < cLine := hu_of B.hr
theorem Nf.nm (B : Nf X N sc) (h1 : N[i]? = some x) (h2 : Vis sc x) (hd : (x == ("__debug__" : Str)) = false) (hc : (x == ("__classdict__" : Str)) = false) : Nm X.N X.env i x :=
  ⟨by rw [B.hN]; exact h1, by rw [B.hs]; exact h2, hd, hc⟩
theorem Nf.nl (B : Nf X N sc) (h1 : N[i]? = some x) (h2 : Loc sc x) : Nl X.N X.env X.fn i x := ⟨by rw [B.hN]; exact h1, by rw [B.hs]; exact h2, .inl (B.fn x)⟩
theorem Nf.gl (B : Nf X N sc) (h : sc.names.lookup x = some .globalImplicit) : X.env.kindOf x = some .globalImplicit := by
  unfold Env.kindOf
  rw [B.hs]
  exact h
theorem Nf.lk (B : Nf X N sc) (h : sc.names.lookup x = some .local) : X.env.kindOf x = some .local := by
  unfold Env.kindOf
  rw [B.hs]
  exact h
theorem Nf.gd (B : Nf X N sc) (h : sc.names.lookup x = some .globalImplicit) (hd : (x == ("__debug__" : Str)) = false) : Gd X.env x := ⟨B.gl h, hd⟩
end
/-- a def of the text keeps its promise, if its body does so in any such context -/
theorem def_ok {P : Program} {w : World} {K : PySem.W.Frag} {mg : Str → Option Value} {base : Heap} {x qual : Str} {st : Stmt} {f : Addr} {fd : FuncData} {N ps : List Str} {k : Nat} {sp : Sp}
    (F : Fun K x qual st f fd) (S : FnScope N ps (defScope st)) (len : ∀ vs H Q E, sp vs H Q E → vs.length = ps.length)
    (body : ∀ (X : Cx), X.prog = P → X.w = w → X.K = K → X.mg = mg → X.base = base → Bd X k N (defScope st) → ∀ (vs : List V) (H : Hp) (Q : VK) (E : XK),
      L2N.Takes X (fun cls d _ H => E cls d H) → sp vs H Q E → Wb X (defBody st) { nx := fun _ H' => Q .non H', rt := Q } (start N vs) H) :
    FnOk P w K mg base (L2N.CX P w) (k + 1) f fd ps sp := by
  obtain ⟨oc, od, kV, doc, pm, an, cdv, ct, osl, rfl, lk, hcd⟩ := F.ex
  refine fn_of lk hcd S len fun A outer s H vs Q E hr hsp => ⟨_, Wb.pss, ?_⟩
  refine body _ rfl rfl rfl rfl rfl ⟨⟨rfl, rfl, fun _ => rfl⟩, hr, S.nd, rfl, rfl, rfl, passes_of rfl⟩ vs H Q E (L2N.takes_of rfl rfl rfl rfl) hsp
end Sh
namespace Sh
open PySem PySem.Spec L2 PyProof.Rows
section
variable {X : Cx} {σ : St} {H : Hp} {Q : VK} {i j : Int} {x y v : V} {b : Bool}
theorem wop_add (q : Q (.int (i + j)) H) : Wop X (binaryOp .Add) (.int i) (.int j) H Q := of_op op_add ⟨_, _, rfl, rfl, q⟩
theorem wop_sub (q : Q (.int (i - j)) H) : Wop X (binaryOp .Sub) (.int i) (.int j) H Q := of_op op_sub ⟨_, _, rfl, rfl, q⟩
theorem wop_mul (h : CMul i j) (q : Q (.int (i * j)) H) : Wop X (binaryOp .Mult) (.int i) (.int j) H Q := of_op op_mul ⟨_, _, rfl, rfl, h, q⟩
theorem wop_mod (h : 0 < j) (q : Q (.int (i % j)) H) : Wop X (binaryOp .Mod) (.int i) (.int j) H Q := of_op op_mod ⟨_, _, rfl, rfl, h, q⟩
theorem wop_fdiv (h : 0 < j) (h2 : j < 1073741824) (q : Q (.int (i / j)) H) : Wop X (binaryOp .FloorDiv) (.int i) (.int j) H Q := of_op op_fdiv ⟨_, _, rfl, rfl, ⟨h, h2⟩, q⟩
theorem wun_neg (q : Q (.int (-i)) H) : Wun X (unaryOp .USub) (.int i) H Q := of_un un_neg ⟨_, rfl, q⟩
theorem wop_lt (q : Q (.bl (decide (i < j))) H) : Wop X (compareOp .Lt) (.int i) (.int j) H Q := of_op op_lt ⟨_, _, rfl, rfl, q⟩
theorem wop_le (q : Q (.bl (decide (i ≤ j))) H) : Wop X (compareOp .LtE) (.int i) (.int j) H Q := of_op op_le ⟨_, _, rfl, rfl, q⟩
theorem wop_gt (q : Q (.bl (decide (j < i))) H) : Wop X (compareOp .Gt) (.int i) (.int j) H Q := of_op op_gt ⟨_, _, rfl, rfl, q⟩
theorem wop_ge (q : Q (.bl (decide (j ≤ i))) H) : Wop X (compareOp .GtE) (.int i) (.int j) H Q := of_op op_ge ⟨_, _, rfl, rfl, q⟩
theorem wop_eq (h : scal x y = true) (q : Q (.bl (decide (x = y))) H) : Wop X (compareOp .Eq) x y H Q := of_op op_eq ⟨h, q⟩
theorem wop_ne (h : scal x y = true) (q : Q (.bl (!decide (x = y))) H) : Wop X (compareOp .NotEq) x y H Q := of_op op_ne ⟨h, q⟩
theorem wop_isN (q : Q (.bl (decide (x = .non))) H) : Wop X (compareOp .Is) x .non H Q := of_op op_isN ⟨rfl, q⟩
theorem wop_notN (q : Q (.bl (!decide (x = .non))) H) : Wop X (compareOp .IsNot) x .non H Q := of_op op_notN ⟨rfl, q⟩

/-! what a thing is, and isinstance -/
def tyName : PyData → String
  | .none => "NoneType"
  | .bool _ => "bool"
  | .int _ => "int"
  | .str _ => "str"
  | .list _ => "list"
  | .tuple _ => "tuple"
  | .dict _ => "dict"
def isi (d : PyData) (n : String) : Bool := (kitB (tyName d) n).getD false
theorem isi_int : ∀ d : PyData, kitB (tyName d) "int" = some (match d with | .int _ => true | .bool _ => true | _ => false)
  | .none => (by decide +kernel : kitB "NoneType" "int" = some false)
  | .bool _ => (by decide +kernel : kitB "bool" "int" = some true)
  | .int _ => (by decide +kernel : kitB "int" "int" = some true)
  | .str _ => (by decide +kernel : kitB "str" "int" = some false)
  | .list _ => (by decide +kernel : kitB "list" "int" = some false)
  | .tuple _ => (by decide +kernel : kitB "tuple" "int" = some false)
  | .dict _ => (by decide +kernel : kitB "dict" "int" = some false)
theorem isi_bool : ∀ d : PyData, kitB (tyName d) "bool" = some (match d with | .bool _ => true | _ => false)
  | .none => (by decide +kernel : kitB "NoneType" "bool" = some false)
  | .bool _ => (by decide +kernel : kitB "bool" "bool" = some true)
  | .int _ => (by decide +kernel : kitB "int" "bool" = some false)
  | .str _ => (by decide +kernel : kitB "str" "bool" = some false)
  | .list _ => (by decide +kernel : kitB "list" "bool" = some false)
  | .tuple _ => (by decide +kernel : kitB "tuple" "bool" = some false)
  | .dict _ => (by decide +kernel : kitB "dict" "bool" = some false)
theorem isi_str : ∀ d : PyData, kitB (tyName d) "str" = some (match d with | .str _ => true | _ => false)
  | .none => (by decide +kernel : kitB "NoneType" "str" = some false)
  | .bool _ => (by decide +kernel : kitB "bool" "str" = some false)
  | .int _ => (by decide +kernel : kitB "int" "str" = some false)
  | .str _ => (by decide +kernel : kitB "str" "str" = some true)
  | .list _ => (by decide +kernel : kitB "list" "str" = some false)
  | .tuple _ => (by decide +kernel : kitB "tuple" "str" = some false)
  | .dict _ => (by decide +kernel : kitB "dict" "str" = some false)
theorem isi_tuple : ∀ d : PyData, kitB (tyName d) "tuple" = some (match d with | .tuple _ => true | _ => false)
  | .none => (by decide +kernel : kitB "NoneType" "tuple" = some false)
  | .bool _ => (by decide +kernel : kitB "bool" "tuple" = some false)
  | .int _ => (by decide +kernel : kitB "int" "tuple" = some false)
  | .str _ => (by decide +kernel : kitB "str" "tuple" = some false)
  | .list _ => (by decide +kernel : kitB "list" "tuple" = some false)
  | .tuple _ => (by decide +kernel : kitB "tuple" "tuple" = some true)
  | .dict _ => (by decide +kernel : kitB "dict" "tuple" = some false)
theorem isi_list : ∀ d : PyData, kitB (tyName d) "list" = some (match d with | .list _ => true | _ => false)
  | .none => (by decide +kernel : kitB "NoneType" "list" = some false)
  | .bool _ => (by decide +kernel : kitB "bool" "list" = some false)
  | .int _ => (by decide +kernel : kitB "int" "list" = some false)
  | .str _ => (by decide +kernel : kitB "str" "list" = some false)
  | .list _ => (by decide +kernel : kitB "list" "list" = some true)
  | .tuple _ => (by decide +kernel : kitB "tuple" "list" = some false)
  | .dict _ => (by decide +kernel : kitB "dict" "list" = some false)
theorem Dp.ty {K : PySem.W.Frag} {d : PyData} (h : Dp K H v d) : TyX K H v (.type (tyName d)) := by
  cases h with
  | non => exact .base .non
  | bl b => exact .base (.bl b)
  | int i => exact .base (.int i)
  | str s => exact .base (.str s)
  | lst h _ =>
    rcases h with (h | ⟨o, h⟩) | ⟨o, its, n, h1, h2, _⟩
    · exact .base (.lst h)
    · exact .base (.frz h)
    · exact .kList h1 h2
  | tup h _ =>
    rcases h with (h | ⟨o, h⟩) | ⟨o, its, n, h1, h2, _⟩
    · exact .base (.tup h)
    · exact .fTuple h
    · exact .kTuple h1 h2
theorem wc_isi {d : PyData} {n : String} (h : Dp X.K H v d) (hb : kitB (tyName d) n = some b) (q : Q (.bl b) H) : Wcall X (.builtin "isinstance") [v, .ty n] H Q :=
  of_cr call_isi ⟨_, _, _, _, _, rfl, .ty n, Dp.ty h, kit_ty hb, q⟩
theorem wc_lenT {p : Addr} {xs : List V} (h : SqT X.K H p xs) (q : Q (.int xs.length) H) : Wcall X (.builtin "len") [.ref p] H Q := of_cr call_len_seq ⟨p, xs, rfl, .inr h, q⟩
theorem wc_lenL {p : Addr} {xs : List V} (h : SqL X.K H p xs) (q : Q (.int xs.length) H) : Wcall X (.builtin "len") [.ref p] H Q := of_cr call_len_seq ⟨p, xs, rfl, .inl h, q⟩
end
section
variable {X : Cx} {a b c e o : Expr} {es rest : List Expr} {σ : St} {H : Hp} {Q : VK} {QB : Bool → Hp → Prop} {QA : List V → Hp → Prop} {QS : St → Hp → Prop} {D : Ends} {pos : Pos} {v x y : V}
theorem we_id (h : We X e σ H Q) : We X e σ H Q := h
theorem we_idN {z : Str} (h : We X (.Name z pos) σ H Q) : We X (.Name z pos) σ H Q := h
theorem we_idC {k : Const} {n : Nat} (h : We X (.Constant k n pos) σ H Q) : We X (.Constant k n pos) σ H Q := h
theorem we_idF {k : List Keyword} (h : We X (.Call a es k pos) σ H Q) : We X (.Call a es k pos) σ H Q := h
theorem we_idSl {lo hi st : Option Expr} {p2 : Pos} (h : We X (.Subscript a (.Slice lo hi st p2) pos) σ H Q) : We X (.Subscript a (.Slice lo hi st p2) pos) σ H Q := h
theorem wt_id (h : Wt X e σ H QB) : Wt X e σ H QB := h
theorem ww_id (h : Ww X e σ H QB) : Ww X e σ H QB := h
theorem wa_id (h : Wa X es σ H QA) : Wa X es σ H QA := h
theorem wb_id {st : List Stmt} (h : Wb X st D σ H) : Wb X st D σ H := h
theorem ws_id {st : Stmt} (h : Ws X st D σ H) : Ws X st D σ H := h
theorem wg_id (h : Wg X e v σ H QS) : Wg X e v σ H QS := h
theorem wop_id {f : Value → Value → Sem Value} (h : Wop X f x y H Q) : Wop X f x y H Q := h
theorem wun_id {f : Value → Sem Value} (h : Wun X f x H Q) : Wun X f x H Q := h
end
end Sh
namespace Sh
open PySem PySem.Spec L2 PyProof.Rows
/-- a def of the module -/
def DefAt (K : PySem.W.Frag) (mg : Str → Option Value) (x : Str) (st : Stmt) (ps : List Str) : Prop :=
  ∃ (f : Addr) (fd : FuncData), Fun K x x st f fd ∧ mg x = some (.ref f) ∧ PySem.W.keepIn K (.ref f) = true ∧ Binds K fd ps []
/-- a method of the class at C -/
def MethAt (K : PySem.W.Frag) (C : Addr) (m qual : Str) (st : Stmt) (ps : List Str) : Prop :=
  ∃ (f : Addr) (fd : FuncData), Fun K m qual st f fd ∧ Meth K C m f ∧ Binds K fd ps []
/-- an exception class of the text, over ValueError -/
structure Xn (K : PySem.W.Frag) (mg : Str → Option Value) (x : Str) (C : Addr) : Prop where
  g : mg x = some (.ref C)
  x : PySem.W.excIn K C [.type "ValueError", .type "Exception", .type "BaseException", .type "object"] "ValueError.__new__" = true
  k : PySem.W.keepIn K (.ref C) = true
  b : PySem.W.subIn K (.ref C) (.type "BaseException") = some true
  t : PySem.W.typeIn K (.ref C) = some (.type "type")
structure KAt (K : PySem.W.Frag) (mg : Str → Option Value) (x : Str) (C : Addr) : Prop where
  g : mg x = some (.ref C)
  c : Cls K C
  m : PySem.W.makesIn K C = true
  k : PySem.W.keepIn K (.ref C) = true
section
variable {K : PySem.W.Frag} {mg : Str → Option Value} {h : Heap} {P : Program} {w : World} {base : Heap}
theorem defAt_mk {x : Str} {st : Stmt} {f : Addr} {oc : Value} {od an : Option Addr} {osl : Array (Option Value)} {kV doc pm cdv ct : Value} {ps : List Str} (X : K.In h) (G : h.Ns mainGlobals mg)
    (a : PySem.W.nsIn K mainGlobals x = some (some (.ref f))) (l : K.lookup f = some ⟨oc, od, .func (PySem.W.fnOf x x (defArgs st) (defBody st) (defScope st) .none kV doc pm an cdv ct), osl⟩)
    (c : PySem.W.codeIn K cdv x = true) (k : PySem.W.keepIn K (.ref f) = true)
    (b : ∀ (kV doc pm : Value) (an : Option Addr) (cdv ct : Value) (us : List Value), us.length = ps.length → bindArgs (PySem.W.fnOf x x (defArgs st) (defBody st) (defScope st) .none kV doc pm an cdv ct) ⟨us, []⟩ = pure (ps.zip us)) : DefAt K mg x st ps :=
  ⟨f, _, fun_mk l c k, PySem.W.mg_of X G a, k, (fun_mk (st := st) l c k).binds b⟩
theorem methAt_mk {x qual : Str} {st : Stmt} {f C : Addr} {oc : Value} {od an : Option Addr} {osl : Array (Option Value)} {kV doc pm cdv ct : Value} {ps : List Str}
    (a : PySem.W.findIn K (.ref C) x = some (some (.ref f))) (i : PySem.W.isFn K (.ref f) = true) (l : K.lookup f = some ⟨oc, od, .func (PySem.W.fnOf x qual (defArgs st) (defBody st) (defScope st) .none kV doc pm an cdv ct), osl⟩)
    (c : PySem.W.codeIn K cdv qual = true) (k : PySem.W.keepIn K (.ref f) = true)
    (b : ∀ (kV doc pm : Value) (an : Option Addr) (cdv ct : Value) (us : List Value), us.length = ps.length → bindArgs (PySem.W.fnOf x qual (defArgs st) (defBody st) (defScope st) .none kV doc pm an cdv ct) ⟨us, []⟩ = pure (ps.zip us)) : MethAt K C x qual st ps :=
  ⟨f, _, fun_mk l c k, ⟨a, i, k⟩, (fun_mk (st := st) l c k).binds b⟩
theorem xn_mk {x : Str} {C : Addr} (X : K.In h) (G : h.Ns mainGlobals mg) (a : PySem.W.nsIn K mainGlobals x = some (some (.ref C)))
    (e : PySem.W.excIn K C [.type "ValueError", .type "Exception", .type "BaseException", .type "object"] "ValueError.__new__" = true)
    (k : PySem.W.keepIn K (.ref C) = true) (b : PySem.W.subIn K (.ref C) (.type "BaseException") = some true) (t : PySem.W.typeIn K (.ref C) = some (.type "type")) : Xn K mg x C :=
  ⟨PySem.W.mg_of X G a, e, k, b, t⟩
theorem kAt_mk {x : Str} {C : Addr} (X : K.In h) (G : h.Ns mainGlobals mg) (a : PySem.W.nsIn K mainGlobals x = some (some (.ref C)))
    (pg : PySem.W.plainGet K C Str.empty = true) (hd : PySem.W.hasDictIn K C = true) (po : PySem.W.plainOver K C = true)
    (sa : PySem.W.findIn K (.ref C) "__setattr__" = some (some (.builtin "object.__setattr__"))) (mk : PySem.W.makesIn K C = true) (kc : PySem.W.keepIn K (.ref C) = true) : KAt K mg x C :=
  ⟨PySem.W.mg_of X G a, ⟨pg, hd, po, sa⟩, mk, kc⟩
/-- from a def of the module to how it may be called -/
theorem dn_of {x : Str} {st : Stmt} {N ps : List Str} {k : Nat} {sp : Sp} (A : DefAt K mg x st ps) (S : FnScope N ps (defScope st)) (len : ∀ vs H Q E, sp vs H Q E → vs.length = ps.length)
    (body : ∀ (X : Cx), X.prog = P → X.w = w → X.K = K → X.mg = mg → X.base = base → Bd X k N (defScope st) → ∀ (vs : List V) (H : Hp) (Q : VK) (E : XK),
      L2N.Takes X (fun cls d _ H => E cls d H) → sp vs H Q E → Wb X (defBody st) { nx := fun _ H' => Q .non H', rt := Q } (start N vs) H) : Dn P w K mg base (k + 1) x ps sp := by
  obtain ⟨f, fd, F, hm, kp, hb⟩ := A
  exact ⟨f, fd, def_ok F S len body, hm, kp, hb⟩
theorem mn_of {x qual : Str} {C : Addr} {st : Stmt} {N ps : List Str} {k : Nat} {sp : Sp} (A : MethAt K C x qual st ps) (S : FnScope N ps (defScope st)) (len : ∀ vs H Q E, sp vs H Q E → vs.length = ps.length)
    (body : ∀ (X : Cx), X.prog = P → X.w = w → X.K = K → X.mg = mg → X.base = base → Bd X k N (defScope st) → ∀ (vs : List V) (H : Hp) (Q : VK) (E : XK),
      L2N.Takes X (fun cls d _ H => E cls d H) → sp vs H Q E → Wb X (defBody st) { nx := fun _ H' => Q .non H', rt := Q } (start N vs) H) : Mn P w K mg base (k + 1) C x ps sp := by
  obtain ⟨f, fd, F, hm, hb⟩ := A
  exact ⟨f, fd, def_ok F S len body, hm, hb⟩
theorem cn_of {x : Str} {C : Addr} {ps : List Str} {k : Nat} {sp : Sp} (A : KAt K mg x C) (M : Mn P w K mg base k C "__init__" ps sp) : Cn P w K mg base k x C ps sp := by
  obtain ⟨f, fd, F, hm, hb⟩ := M
  exact ⟨f, fd, F, A.g, ⟨A.m, hm.at_, hm.fn, A.k⟩, hb⟩
end
section
variable {X : Cx} {σ : St} {H : Hp} {D : Ends} {W : WX} {z m : Str} {C : Addr} {n : Nat} {p q1 q2 q3 : Pos}
/-- raise X('..') -/
theorem ws_raiseX (hc : X.calm = true) (tk : L2N.Takes X W) (g : Gd X.env z) (x : Xn X.K X.mg z C) (q : W (.ref C) none σ H) :
    Ws X (.Raise (some (.Call (.Name z q1) [.Constant (.str m) n q2] [] q3)) none p) D σ H :=
  ws_raise hc tk PySem.F.excBase_ValueError x.x x.g x.k (raises_own x.b x.t) g q
end
section
variable {X : Cx} {σ : St} {H : Hp} {Q : VK} {i : Int} {z : Str} {pos : Pos} {T : String} {t : Tok} {a : Addr}
theorem we_bty (g : Bn X.env X.mg z (.type T)) (q : Q (.ty T) H) : We X (.Name z pos) σ H Q := we_blt (v := .ty T) g rfl q
theorem we_gint (g : Gd X.env z) (m : ∃ t, X.mg z = some (.int i t)) (q : Q (.int i) H) : We X (.Name z pos) σ H Q := by
  obtain ⟨t, m⟩ := m
  exact we_glob (v := .int i) ⟨g.gl, g.hd, m⟩ ⟨t, rfl⟩ q
theorem we_gref (g : Gd X.env z) (m : X.mg z = some (.ref a)) (q : Q (.ref a) H) : We X (.Name z pos) σ H Q := we_glob (v := .ref a) ⟨g.gl, g.hd, m⟩ rfl q
end

/-! addresses of the classes, built-in names -/
structure Cl where
  (HandError NoSettings NoWorth NoHandle Stale Full NoPlace NoList NoNumber NotEmpty NoDeed Store Dense Chains Beside : Addr)
theorem bt_isinstance : bootBuiltins "isinstance" = some (.builtin "isinstance") := by decide +kernel
theorem nn_isinstance : ("isinstance" : Str) ≠ "__name__" := by decide
theorem bt_len : bootBuiltins "len" = some (.builtin "len") := by decide +kernel
theorem nn_len : ("len" : Str) ≠ "__name__" := by decide
theorem bt_sorted : bootBuiltins "sorted" = some (.builtin "sorted") := by decide +kernel
theorem nn_sorted : ("sorted" : Str) ≠ "__name__" := by decide
theorem bt_min : bootBuiltins "min" = some (.builtin "min") := by decide +kernel
theorem nn_min : ("min" : Str) ≠ "__name__" := by decide
theorem bt_max : bootBuiltins "max" = some (.builtin "max") := by decide +kernel
theorem nn_max : ("max" : Str) ≠ "__name__" := by decide
theorem bt_sum : bootBuiltins "sum" = some (.builtin "sum") := by decide +kernel
theorem nn_sum : ("sum" : Str) ≠ "__name__" := by decide
theorem bt_all : bootBuiltins "all" = some (.builtin "all") := by decide +kernel
theorem nn_all : ("all" : Str) ≠ "__name__" := by decide
theorem bt_any : bootBuiltins "any" = some (.builtin "any") := by decide +kernel
theorem nn_any : ("any" : Str) ≠ "__name__" := by decide
theorem bt_int : bootBuiltins "int" = some (.type "int") := by decide +kernel
theorem nn_int : ("int" : Str) ≠ "__name__" := by decide
theorem bt_bool : bootBuiltins "bool" = some (.type "bool") := by decide +kernel
theorem nn_bool : ("bool" : Str) ≠ "__name__" := by decide
theorem bt_str : bootBuiltins "str" = some (.type "str") := by decide +kernel
theorem nn_str : ("str" : Str) ≠ "__name__" := by decide
theorem bt_list : bootBuiltins "list" = some (.type "list") := by decide +kernel
theorem nn_list : ("list" : Str) ≠ "__name__" := by decide
theorem bt_tuple : bootBuiltins "tuple" = some (.type "tuple") := by decide +kernel
theorem nn_tuple : ("tuple" : Str) ≠ "__name__" := by decide
theorem bt_dict : bootBuiltins "dict" = some (.type "dict") := by decide +kernel
theorem nn_dict : ("dict" : Str) ≠ "__name__" := by decide
theorem bt_type : bootBuiltins "type" = some (.type "type") := by decide +kernel
theorem nn_type : ("type" : Str) ≠ "__name__" := by decide
theorem bt_range : bootBuiltins "range" = some (.type "range") := by decide +kernel
theorem nn_range : ("range" : Str) ≠ "__name__" := by decide
theorem bt_enumerate : bootBuiltins "enumerate" = some (.type "enumerate") := by decide +kernel
theorem nn_enumerate : ("enumerate" : Str) ≠ "__name__" := by decide
theorem bt_zip : bootBuiltins "zip" = some (.type "zip") := by decide +kernel
theorem nn_zip : ("zip" : Str) ≠ "__name__" := by decide
theorem bt_reversed : bootBuiltins "reversed" = some (.type "reversed") := by decide +kernel
theorem nn_reversed : ("reversed" : Str) ≠ "__name__" := by decide
theorem bt_ValueError : bootBuiltins "ValueError" = some (.type "ValueError") := by decide +kernel
theorem nn_ValueError : ("ValueError" : Str) ≠ "__name__" := by decide
end Sh
namespace Sh
open PySem PySem.Spec L2 PyProof.Rows
/-! ### what is owned: a list of assertions, each over a part of the heap of its own; tuples are never changed, and shared -/
def TLe (T T' : Hp) : Prop := ∀ a xs, T a = some (.tup xs) → T' a = some (.tup xs)
def HLe (h h' : Hp) : Prop := ∀ a o, h a = some o → h' a = some o
def Dj (h1 h2 : Hp) : Prop := ∀ a, h1 a = none ∨ h2 a = none
theorem TLe.rfl {T : Hp} : TLe T T := fun _ _ h => h
theorem TLe.trans {a b c : Hp} (x : TLe a b) (y : TLe b c) : TLe a c := fun p xs h => y p xs (x p xs h)
theorem HLe.rfl {T : Hp} : HLe T T := fun _ _ h => h
theorem HLe.trans {a b c : Hp} (x : HLe a b) (y : HLe b c) : HLe a c := fun p o h => y p o (x p o h)
theorem Dj.symm {a b : Hp} (d : Dj a b) : Dj b a := fun x => (d x).symm
theorem Dj.mono {a b a' b' : Hp} (d : Dj a b) (ha : HLe a' a) (hb : HLe b' b) : Dj a' b' := fun x => by
  rcases d x with h | h
  · left
    cases e : a' x with
    | none => exact Eq.refl _
    | some o => rw [ha x o e] at h; cases h
  · right
    cases e : b' x with
    | none => exact Eq.refl _
    | some o => rw [hb x o e] at h; cases h
structure Asn where
  P : Hp → Hp → Prop
  mono : ∀ {T T' h h' : Hp}, TLe T T' → HLe h h' → P T h → P T' h'
def SLs (T : Hp) : Hp → List Asn → Prop
  | _, [] => True
  | h, A :: L => ∃ h1 h2, Dj h1 h2 ∧ HLe h1 h ∧ HLe h2 h ∧ A.P T h1 ∧ SLs T h2 L
theorem SLs.mono {T T' : Hp} (ht : TLe T T') : ∀ {L : List Asn} {h h' : Hp}, HLe h h' → SLs T h L → SLs T' h' L
  | [], _, _, _, _ => trivial
  | A :: L, h, h', hh, ⟨h1, h2, d, l1, l2, a, s⟩ => ⟨h1, h2, d, l1.trans hh, l2.trans hh, A.mono ht HLe.rfl a, SLs.mono ht HLe.rfl s⟩
structure Own (H : Hp) (L : List Asn) : Prop where
  s : SLs H H L
/-- A, replaced by B -/
inductive Rp (A B : Asn) : List Asn → List Asn → Prop
  | here {L : List Asn} : Rp A B (A :: L) (B :: L)
  | there {D : Asn} {L L' : List Asn} (h : Rp A B L L') : Rp A B (D :: L) (D :: L')
/-- A, taken out -/
inductive Rm (A : Asn) : List Asn → List Asn → Prop
  | here {L : List Asn} : Rm A (A :: L) L
  | there {D : Asn} {L L' : List Asn} (h : Rm A L L') : Rm A (D :: L) (D :: L')
def cj (L : List Asn) : Asn := ⟨fun T h => SLs T h L, fun ht hh s => SLs.mono ht hh s⟩
def ex {α : Type} (F : α → Asn) : Asn := ⟨fun T h => ∃ x, (F x).P T h, fun ht hh ⟨x, s⟩ => ⟨x, (F x).mono ht hh s⟩⟩
def pr (φ : Prop) : Asn := ⟨fun _ _ => φ, fun _ _ s => s⟩
/-- the object at a -/
def pt (a : Addr) (o : HO) : Asn := ⟨fun _ h => h a = some o, fun _ hh s => hh _ _ s⟩
/-- a tuple -/
def tp (a : Addr) (xs : List V) : Asn := ⟨fun T _ => T a = some (.tup xs), fun ht _ s => ht _ _ s⟩
mutual
/-- plain things without lists -/
inductive Dt (T : Hp) : V → PyData → Prop
  | non : Dt T .non .none
  | bl (b : Bool) : Dt T (.bl b) (.bool b)
  | int (i : Int) : Dt T (.int i) (.int i)
  | str (x : Str) : Dt T (.str x) (.str x)
  | tup {a : Addr} {xs : List V} {ds : List PyData} : T a = some (.tup xs) → DtAll T xs ds → Dt T (.ref a) (.tuple ds)
inductive DtAll (T : Hp) : List V → List PyData → Prop
  | nil : DtAll T [] []
  | cons {v : V} {vs : List V} {d : PyData} {ds : List PyData} : Dt T v d → DtAll T vs ds → DtAll T (v :: vs) (d :: ds)
end
mutual
theorem Dt.mono {T T' : Hp} (ht : TLe T T') : ∀ {d : PyData} {v : V}, Dt T v d → Dt T' v d
  | .none, _, h => by cases h; exact .non
  | .bool b, _, h => by cases h; exact .bl b
  | .int i, _, h => by cases h; exact .int i
  | .str x, _, h => by cases h; exact .str x
  | .list _, _, h => by cases h
  | .dict _, _, h => by cases h
  | .tuple ds, _, h => by
    cases h with
    | tup h1 h2 => exact .tup (ht _ _ h1) (DtAll.mono ht h2)
theorem DtAll.mono {T T' : Hp} (ht : TLe T T') : ∀ {ds : List PyData} {vs : List V}, DtAll T vs ds → DtAll T' vs ds
  | [], _, h => by cases h; exact .nil
  | d :: ds, _, h => by
    cases h with
    | cons h1 h2 => exact .cons (Dt.mono ht h1) (DtAll.mono ht h2)
end
mutual
theorem Dt.dp {K : PySem.W.Frag} {T : Hp} : ∀ {d : PyData} {v : V}, Dt T v d → Dp K T v d
  | .none, _, h => by cases h; exact .non
  | .bool b, _, h => by cases h; exact .bl b
  | .int i, _, h => by cases h; exact .int i
  | .str x, _, h => by cases h; exact .str x
  | .list _, _, h => by cases h
  | .dict _, _, h => by cases h
  | .tuple ds, _, h => by
    cases h with
    | tup h1 h2 => exact .tup (SqT.of h1) (DtAll.dp h2)
theorem DtAll.dp {K : PySem.W.Frag} {T : Hp} : ∀ {ds : List PyData} {vs : List V}, DtAll T vs ds → DpAll K T vs ds
  | [], _, h => by cases h; exact .nil
  | d :: ds, _, h => by
    cases h with
    | cons h1 h2 => exact .cons (Dt.dp h1) (DtAll.dp h2)
end
/-- a plain thing, several -/
def dt (v : V) (d : PyData) : Asn := ⟨fun T _ => Dt T v d, fun ht _ s => s.mono ht⟩
def dts (vs : List V) (ds : List PyData) : Asn := ⟨fun T _ => DtAll T vs ds, fun ht _ s => s.mono ht⟩
section
variable {H : Hp} {A B : Asn} {L L' L1 : List Asn} {a p : Addr} {o o' : HO} {xs : List V} {T h : Hp}
theorem SLs.get (m : A ∈ L) (s : SLs T h L) : A.P T h := by
  induction L generalizing h with
  | nil => cases m
  | cons D L ih =>
    obtain ⟨h1, h2, d, l1, l2, b, s⟩ := s
    rcases List.mem_cons.mp m with rfl | m
    · exact A.mono TLe.rfl l1 b
    · exact A.mono TLe.rfl l2 (ih m s)
theorem Own.get (x : Own H L) (m : A ∈ L) : A.P H H := x.s.get m
theorem SLs.swap (s : SLs T h (A :: B :: L)) : SLs T h (B :: A :: L) := by
  obtain ⟨h1, h2, d, l1, l2, a, h3, h4, d', l3, l4, b, s⟩ := s
  refine ⟨h3, fun x => if (h1 x).isSome then h1 x else h4 x, fun x => ?_, l3.trans l2, fun x u e => ?_, b, h1, h4, (d.mono HLe.rfl l4), fun x u e => ?_, fun x u e => ?_, a, s⟩
  · rcases d x with e | e
    · rcases d' x with e' | e'
      · exact .inl e'
      · right; simp [e, e']
    · left
      cases q : h3 x with
      | none => rfl
      | some u => rw [l3 x u q] at e; cases e
  · (try dsimp only at e)
    split at e
    · exact l1 x u e
    · exact l2 x u (l4 x u e)
  · (try dsimp only); rw [e]; rfl
  · (try dsimp only)
    rcases d x with q | q
    · rw [q]; simpa using e
    · rw [l4 x u e] at q; cases q
theorem SLs.front (r : Rm A L L') (s : SLs T h L) : SLs T h (A :: L') := by
  induction r generalizing h with
  | here => exact s
  | there r ih =>
    obtain ⟨h1, h2, d, l1, l2, a, s⟩ := s
    exact SLs.swap ⟨h1, h2, d, l1, l2, a, ih s⟩
theorem SLs.back (r : Rm A L L') (s : SLs T h (A :: L')) : SLs T h L := by
  induction r generalizing h with
  | here => exact s
  | there r ih =>
    obtain ⟨h1, h2, d, l1, l2, a, s⟩ := SLs.swap s
    exact ⟨h1, h2, d, l1, l2, a, ih s⟩
theorem Own.front (r : Rm A L L') (x : Own H L) : Own H (A :: L') := ⟨x.s.front r⟩
theorem Own.back (r : Rm A L L') (x : Own H (A :: L')) : Own H L := ⟨x.s.back r⟩
theorem SLs.drop (s : SLs T h (A :: L)) : SLs T h L := by
  obtain ⟨h1, h2, d, l1, l2, a, s⟩ := s
  exact SLs.mono TLe.rfl l2 s
theorem Own.drop (x : Own H (A :: L)) : Own H L := ⟨x.s.drop⟩
/-- what is not owned by anyone may be said besides -/
theorem Own.add (x : Own H L) (a : A.P H (fun _ => none)) : Own H (A :: L) := ⟨⟨_, H, fun _ => .inl rfl, fun _ _ e => (by cases e), HLe.rfl, a, x.s⟩⟩
theorem Own.addT (x : Own H L) (e : H a = some (.tup xs)) : Own H (tp a xs :: L) := x.add e
theorem Own.addD {v : V} {d : PyData} (x : Own H L) (e : Dt H v d) : Own H (dt v d :: L) := x.add e
theorem Own.addP {φ : Prop} (x : Own H L) (e : φ) : Own H (pr φ :: L) := x.add e
theorem Own.tle {H' : Hp} (x : Own H L) (t : TLe H H') (l : HLe H H') : Own H' L := ⟨x.s.mono t l⟩
theorem tle_new (hp : H p = none) : TLe H (upd H p o) := fun b ys e => by rw [upd_ne (ne_of_none e hp)]; exact e
theorem hle_new (hp : H p = none) : HLe H (upd H p o) := fun b u e => by rw [upd_ne (ne_of_none e hp)]; exact e
/-- a new object -/
theorem Own.new (x : Own H L) (hp : H p = none) : Own (upd H p o) (pt p o :: L) := by
  refine ⟨⟨upd (fun _ => none) p o, H, fun b => ?_, fun b u e => ?_, hle_new hp, upd_same, SLs.mono (tle_new hp) HLe.rfl x.s⟩⟩
  · by_cases e : b = p
    · right; rw [e]; exact hp
    · left; rw [upd_ne e]
  · by_cases q : b = p
    · rw [q, upd_same] at e; cases e; rw [q]; exact upd_same
    · rw [upd_ne q] at e; cases e
theorem Own.newT (x : Own H L) (hp : H p = none) : Own (upd H p (.tup xs)) (tp p xs :: L) := (x.tle (tle_new hp) (hle_new hp)).addT upd_same
/-- what is owned is changed -/
theorem Own.wr (x : Own H L) (r : Rp (pt a o) (pt a o') L L') (nt : ∀ ys, o ≠ .tup ys) : Own (upd H a o') L' := by
  have tl : H a = some o → TLe H (upd H a o') := fun q b ys e => by
    have ne : b ≠ a := fun z => by subst z; rw [e] at q; cases q; exact nt _ rfl
    rw [upd_ne ne]; exact e
  have key : ∀ {h : Hp} {L L' : List Asn}, HLe h H → Rp (pt a o) (pt a o') L L' → SLs H h L → H a = some o ∧ SLs (upd H a o') (upd h a o') L' := by
    intro h L L' hl r s
    induction r generalizing h with
    | @here L =>
      obtain ⟨h1, h2, d, l1, l2, b, s⟩ := s
      have q : h1 a = some o := b
      have qa : H a = some o := hl _ _ (l1 _ _ q)
      have n2 : h2 a = none := (d a).resolve_left (by rw [q]; simp)
      refine ⟨qa, upd (fun _ => none) a o', h2, fun b => ?_, fun b u e => ?_, fun b u e => ?_, upd_same, SLs.mono (tl qa) HLe.rfl s⟩
      · by_cases e : b = a
        · right; rw [e]; exact n2
        · left; rw [upd_ne e]
      · by_cases z : b = a
        · rw [z, upd_same] at e; cases e; rw [z]; exact upd_same
        · rw [upd_ne z] at e; cases e
      · rw [upd_ne (ne_of_none e n2)]; exact l2 b u e
    | @there D L L' r ih =>
      obtain ⟨h1, h2, d, l1, l2, b, s⟩ := s
      obtain ⟨qa, s'⟩ := ih (l2.trans hl) s
      have h2a : h2 a = some o := by
        have : ∀ {h : Hp} {L L' : List Asn}, Rp (pt a o) (pt a o') L L' → SLs H h L → h a = some o := by
          intro h L L' r s
          induction r generalizing h with
          | here => exact s.get List.mem_cons_self
          | there r ih2 =>
            obtain ⟨g1, g2, _, _, l2, _, s⟩ := s
            exact l2 _ _ (ih2 s)
        exact this r s
      have n1 : h1 a = none := (d a).resolve_right (by rw [h2a]; simp)
      refine ⟨qa, h1, upd h2 a o', fun c => ?_, fun c u e => ?_, fun c u e => ?_, D.mono (tl qa) HLe.rfl b, s'⟩
      · by_cases z : c = a
        · left; rw [z]; exact n1
        · rw [upd_ne z]; exact d c
      · rw [upd_ne (ne_of_none e n1)]; exact l1 c u e
      · by_cases z : c = a
        · rw [z, upd_same] at e; cases e; rw [z]; exact upd_same
        · rw [upd_ne z] at e; rw [upd_ne z]; exact l2 c u e
  exact ⟨(key HLe.rfl r x.s).2⟩
theorem SLs.cjI : ∀ {L1 : List Asn} {h : Hp}, SLs T h (cj L1 :: L) → SLs T h (L1 ++ L)
  | [], h, s => s.drop
  | A :: L1, h, s => by
    obtain ⟨h1, h2, d, l1, l2, ⟨h3, h4, d', l3, l4, a, s1⟩, s⟩ := s
    have r : SLs T (fun x => if (h4 x).isSome then h4 x else h2 x) (cj L1 :: L) := by
      refine ⟨h4, h2, d.mono l4 HLe.rfl, fun x u e => ?_, fun x u e => ?_, s1, s⟩
      · (try dsimp only); rw [e]; rfl
      · (try dsimp only)
        rcases d x with q | q
        · have : h4 x = none := by
            cases z : h4 x with
            | none => rfl
            | some v => rw [l4 x v z] at q; cases q
          rw [this]; simpa using e
        · rw [q] at e; cases e
    refine ⟨h3, _, fun x => ?_, l3.trans l1, fun x u e => ?_, a, SLs.cjI r⟩
    · (try dsimp only)
      rcases d' x with q | q
      · exact .inl q
      · rcases d x with q' | q'
        · left
          cases z : h3 x with
          | none => rfl
          | some v => rw [l3 x v z] at q'; cases q'
        · right; rw [q, q']; rfl
    · (try dsimp only at e)
      split at e
      · exact l1 x u (l4 x u e)
      · exact l2 x u e
theorem SLs.cjE : ∀ {L1 : List Asn} {h : Hp}, SLs T h (L1 ++ L) → SLs T h (cj L1 :: L)
  | [], h, s => ⟨fun _ => none, h, fun _ => .inl rfl, fun _ _ e => (by cases e), HLe.rfl, trivial, s⟩
  | A :: L1, h, s => by
    obtain ⟨h1, h2, d, l1, l2, a, s⟩ := s
    obtain ⟨h3, h4, d', l3, l4, s1, s2⟩ := SLs.cjE (L1 := L1) s
    refine ⟨fun x => if (h1 x).isSome then h1 x else h3 x, h4, fun x => ?_, fun x u e => ?_, l4.trans l2, ⟨h1, h3, d.mono HLe.rfl l3, fun x u e => ?_, fun x u e => ?_, a, s1⟩, s2⟩
    · (try dsimp only)
      rcases d' x with q | q
      · rcases d x with q' | q'
        · left; rw [q, q']; rfl
        · right
          cases z : h4 x with
          | none => rfl
          | some v => rw [l4 x v z] at q'; cases q'
      · exact .inr q
    · (try dsimp only at e)
      split at e
      · exact l1 x u e
      · exact l2 x u (l3 x u e)
    · (try dsimp only); rw [e]; rfl
    · (try dsimp only)
      rcases d x with q | q
      · rw [q]; simpa using e
      · rw [l3 x u e] at q; cases q
theorem Own.cjI (x : Own H (cj L1 :: L)) : Own H (L1 ++ L) := ⟨x.s.cjI⟩
theorem Own.cjE (x : Own H (L1 ++ L)) : Own H (cj L1 :: L) := ⟨x.s.cjE⟩
theorem Own.exI {α : Type} {F : α → Asn} (x : Own H (ex F :: L)) : ∃ z, Own H (F z :: L) := by
  obtain ⟨h1, h2, d, l1, l2, ⟨z, a⟩, s⟩ := x.s
  exact ⟨z, ⟨⟨h1, h2, d, l1, l2, a, s⟩⟩⟩
theorem Own.exE {α : Type} {F : α → Asn} (z : α) (x : Own H (F z :: L)) : Own H (ex F :: L) := by
  obtain ⟨h1, h2, d, l1, l2, a, s⟩ := x.s
  exact ⟨⟨h1, h2, d, l1, l2, ⟨z, a⟩, s⟩⟩
theorem Own.prI {φ : Prop} (x : Own H (pr φ :: L)) : φ ∧ Own H L := ⟨x.get (A := pr φ) List.mem_cons_self, x.drop⟩
theorem Own.pt (x : Own H L) (m : pt a o ∈ L) : H a = some o := x.get (A := Sh.pt a o) m
theorem Own.tp (x : Own H L) (m : tp a xs ∈ L) : H a = some (.tup xs) := x.get (A := Sh.tp a xs) m
theorem Own.dt {v : V} {d : PyData} (x : Own H L) (m : dt v d ∈ L) : Dt H v d := x.get (A := Sh.dt v d) m
theorem Own.dts {vs : List V} {ds : List PyData} (x : Own H L) (m : dts vs ds ∈ L) : DtAll H vs ds := x.get (A := Sh.dts vs ds) m
theorem Own.nil (H : Hp) : Own H [] := ⟨trivial⟩
/-- of two lists, in any order -/
theorem Own.perm (x : Own H L) (q : L.Perm L') : Own H L' := by
  have : ∀ {L L' : List Asn}, L.Perm L' → ∀ {h : Hp}, SLs H h L → SLs H h L' := by
    intro L L' q
    induction q with
    | nil => exact fun s => s
    | cons A _ ih => exact fun ⟨h1, h2, d, l1, l2, a, s⟩ => ⟨h1, h2, d, l1, l2, a, ih s⟩
    | swap A B _ => exact fun s => s.swap
    | trans _ _ i1 i2 => exact fun s => i2 (i1 s)
  exact ⟨this q x.s⟩
end
end Sh
namespace Sh
open PySem PySem.Spec L2 PyProof.Rows
section
variable {X : Cx} {a b c e o : Expr} {es rest : List Expr} {σ : St} {H : Hp} {Q : VK} {D : Ends} {pos apos p1 p2 : Pos} {v x y : V} {i j : Int} {n : Nat} {p l : Addr} {xs ys : List V} {L L' : List Asn} {f : Str} {C dx : Addr} {fs : List (Str × V)}
theorem sz {k : Nat} (h : k ≤ 10000000) : k ≤ sizeLine := by rw [sizeLine_eq]; omega
theorem szl {k : Nat} (h : k < 10000000) : k < sizeLine := by rw [sizeLine_eq]; omega
/-! reading -/
theorem fld_ok {K : PySem.W.Frag} {R : V → Prop} (h : H p = some (.ins C dx fs)) (c : Cls K C) (nn : NoAttr K C f) (l : fs.lookup f = some v) (q : R v) :
    ∃ a C' dx' fs' v', V.ref p = .ref a ∧ H a = some (.ins C' dx' fs') ∧ Cls K C' ∧ NoAttr K C' f ∧ fs'.lookup f = some v' ∧ R v' := ⟨p, C, dx, fs, v, rfl, h, c, nn, l, q⟩
theorem o_lenL (h : Own H L) (m : pt p (.lst xs) ∈ L) (q : Q (.int xs.length) H) : Wcall X (.builtin "len") [.ref p] H Q := wc_lenL (SqL.of (h.pt m)) q
theorem o_lenT (h : Own H L) (m : tp p xs ∈ L) (q : Q (.int xs.length) H) : Wcall X (.builtin "len") [.ref p] H Q := wc_lenT (SqT.of (h.tp m)) q
theorem o_lenD {kvs : List (Key × V)} (h : Own H L) (m : pt p (.dK kvs) ∈ L) (q : Q (.int kvs.length) H) : Wcall X (.builtin "len") [.ref p] H Q := of_cr call_lenD ⟨p, kvs, rfl, h.pt m, q⟩
theorem o_subL (h : Own H L) (m : pt p (.lst xs) ∈ L) (hv : atI xs i = some v) (q : Q v H) : Wsub X (.ref p) (.int i) H Q := ws_list (SqL.of (h.pt m)) hv q
theorem o_subT (h : Own H L) (m : tp p xs ∈ L) (hv : atI xs i = some v) (q : Q v H) : Wsub X (.ref p) (.int i) H Q := ws_tup (SqT.of (h.tp m)) hv q
theorem o_subD {kvs : List (Key × V)} {k : Key} (hu : X.A.units + 1 < cLine) (h : Own H L) (m : pt p (.dK kvs) ∈ L) (hv : valV kvs k = some v) (q : Q v H) : Wsub X (.ref p) (kV k) H Q :=
  ws_dict hu (hv ▸ DGet.k (h.pt m)) q
theorem o_subDT {kvs : List (List Key × V)} {k : List Key} {t : Addr} (hu : X.A.units + 1 < cLine) (h : Own H L) (m : pt p (.dT kvs) ∈ L) (m2 : H t = some (.tup (k.map kV))) (hv : valV kvs k = some v) (q : Q v H) : Wsub X (.ref p) (.ref t) H Q :=
  ws_dict hu (hv ▸ DGet.t (h.pt m) m2) q
/-- x in d, x not in d -/
theorem DGet.dict {o : Option V} {pins : List (Addr × Obj)} {s : Shared} (I : Inv X pins σ H s) (g : DGet H p y o) : True := trivial
theorem wop_in (hu : X.A.units + 1 < cLine) {r : Option V} (g : DGet H p y r) (q : Q (.bl r.isSome) H) : Wop X (compareOp .In) y (.ref p) H Q := by
  refine ⟨fun pins s σ u v I ru rv => ?_⟩
  cases (show v = Value.ref p from rv)
  exact d_in hu I g ru fun s3 I3 => ⟨.bl _, H, I3, rfl, q⟩
theorem wop_nin (hu : X.A.units + 1 < cLine) {r : Option V} (g : DGet H p y r) (q : Q (.bl (!r.isSome)) H) : Wop X (compareOp .NotIn) y (.ref p) H Q := by
  refine ⟨fun pins s σ u v I ru rv => ?_⟩
  cases (show v = Value.ref p from rv)
  exact d_notIn hu I g ru fun s3 I3 => ⟨.bl _, H, I3, rfl, q⟩
theorem isL_ok {K : PySem.W.Frag} {R : Prop} (h : Own H L) (m : pt p (.lst xs) ∈ L) (q : R) : (∃ xs, SqL K H p xs) ∧ R := ⟨⟨_, SqL.of (h.pt m)⟩, q⟩
theorem isD_ok {kvs : List (Key × V)} {R : Prop} (h : Own H L) (m : pt p (.dK kvs) ∈ L) (q : R) : IsD H p ∧ R := ⟨.inl ⟨kvs, .inl (h.pt m)⟩, q⟩
/-! new objects, changes -/
theorem Own.newE {H' : Hp} {o : HO} (h : Own H L) (hp : H p = none) (e : H' = upd H p o) : Own H' (Sh.pt p o :: L) := e ▸ h.new hp
theorem Own.newTE {H' : Hp} (h : Own H L) (hp : H p = none) (e : H' = upd H p (.tup xs)) : Own H' (Sh.tp p xs :: L) := e ▸ h.newT hp
theorem Own.wrE {H' : Hp} {o o' : HO} (h : Own H L) (e : H' = upd H p o') (m : Sh.pt p o ∈ L) (nt : ∀ ys, o ≠ .tup ys) (r : Rp (Sh.pt p o) (Sh.pt p o') L L') : Own H' L' := e ▸ h.wr r nt
/-- some of what is owned, in an order that is asked, ahead of the rest -/
inductive Pk : List Asn → List Asn → List Asn → Prop
  | nil {L : List Asn} : Pk [] L L
  | cons {A : Asn} {As L L1 R : List Asn} (r : Rm A L L1) (k : Pk As L1 R) : Pk (A :: As) L R
theorem Own.pick {As L R : List Asn} (k : Pk As L R) (x : Own H L) : Own H (As ++ R) := by
  have key : ∀ {As L R : List Asn}, Pk As L R → ∀ {h : Hp}, SLs H h L → SLs H h (As ++ R) := by
    intro As L R k
    induction k with
    | nil => exact fun s => s
    | cons r k ih =>
      intro h s
      obtain ⟨h1, h2, d, l1, l2, a, s⟩ := s.front r
      exact ⟨h1, h2, d, l1, l2, a, ih s⟩
  exact ⟨key k x.s⟩
/-- the same, in another order -/
inductive Pq : List Asn → List Asn → Prop
  | refl {L : List Asn} : Pq L L
  | cons {A : Asn} {G L L1 : List Asn} (r : Rm A L L1) (k : Pq G L1) : Pq (A :: G) L
theorem Own.pq {G L : List Asn} (k : Pq G L) (x : Own H L) : Own H G := by
  have key : ∀ {G L : List Asn}, Pq G L → ∀ {h : Hp}, SLs H h L → SLs H h G := by
    intro G L k
    induction k with
    | refl => exact fun s => s
    | cons r k ih =>
      intro h s
      obtain ⟨h1, h2, d, l1, l2, a, s⟩ := s.front r
      exact ⟨h1, h2, d, l1, l2, a, ih s⟩
  exact ⟨key k x.s⟩
/-- some of what is owned, the rest forgotten -/
inductive Sb : List Asn → List Asn → Prop
  | refl {L : List Asn} : Sb L L
  | nil {L : List Asn} : Sb [] L
  | cons {A : Asn} {G L L1 : List Asn} (r : Rm A L L1) (k : Sb G L1) : Sb (A :: G) L
  | skip {D : Asn} {G L : List Asn} (k : Sb G L) : Sb G (D :: L)
theorem Own.sub {G L : List Asn} (k : Sb G L) (x : Own H L) : Own H G := by
  have key : ∀ {G L : List Asn}, Sb G L → ∀ {h : Hp}, SLs H h L → SLs H h G := by
    intro G L k
    induction k with
    | refl => exact fun s => s
    | nil => exact fun _ => trivial
    | cons r k ih =>
      intro h s
      obtain ⟨h1, h2, d, l1, l2, a, s⟩ := s.front r
      exact ⟨h1, h2, d, l1, l2, a, ih s⟩
    | skip k ih => exact fun s => ih s.drop
  exact ⟨key k x.s⟩
theorem ntL {xs : List V} : ∀ ys, HO.lst xs ≠ .tup ys := fun _ e => by cases e
theorem ntK {xs : List (Key × V)} : ∀ ys, HO.dK xs ≠ .tup ys := fun _ e => by cases e
theorem ntT {xs : List (List Key × V)} : ∀ ys, HO.dT xs ≠ .tup ys := fun _ e => by cases e
theorem ntI : ∀ ys, HO.ins C dx fs ≠ .tup ys := fun _ e => by cases e
/-! changes -/
theorem ws_fldO (h : Own H L) {fs' : List (Str × V)} (c : Cls X.K C) (nn : NoAttr X.K C f) (m : pt p (.ins C dx fs) ∈ L) (hl : fs.length < 1000) (ef : putF f y fs = fs')
    (r : Rp (pt p (.ins C dx fs)) (pt p (.ins C dx fs')) L L') (q : ∀ H', Own H' L' → D.nx σ H') :
    ∃ a C'' dx' gs, V.ref p = .ref a ∧ H a = some (.ins C'' dx' gs) ∧ Cls X.K C'' ∧ NoAttr X.K C'' f ∧ gs.length < 1000 ∧ D.nx σ (upd H a (.ins C'' dx' (putF f y gs))) := by
  subst ef
  exact ⟨p, C, dx, fs, rfl, h.pt m, c, nn, hl, q _ (h.wr r ntI)⟩
theorem we_append (q : We X o σ H fun x H1 => ∃ l, x = .ref l ∧ (∃ xs, SqL X.K H1 l xs) ∧ We X e σ H1 fun y H2 => ∃ xs, H2 l = some (.lst xs) ∧ xs.length < sizeLine ∧ ∀ H3, H3 = upd H2 l (.lst (xs ++ [y])) → Q .non H3)
    (hbase : attributeBase o "append" X.env (eval o X.env) = eval o X.env := by rfl)
    (hfew : ((backTo pos (starEach [e] X.env)).all (fun w => !w.1) && (backToKw pos (keywordEach [] X.env)).all (fun w => w.1.isSome)
      && decide (([e] : List Expr).length + ([] : List Keyword).length + (if ([] : List Keyword).isEmpty then 0 else 1) < 30)) = true := by rfl)
    (hline : (apos.endLine == pos.line) = true := by rfl) (hs : starEach [e] X.env = (false, eval e X.env) :: starEach [] X.env := by rfl) : We X (.Call (.Attribute o "append" apos) [e] [] pos) σ H Q :=
  we_bm PySem.F.plainAttrs_list PySem.F.slot_list_append PySem.F.type_list_append mt_append (we_imp q fun x H1 ⟨l, ex, hx, q1⟩ => ex ▸ ⟨.inl ⟨rfl, hx⟩,
    wa_cons (we_imp q1 fun y H2 ⟨ys, h1, h2, h3⟩ => wa_nil ⟨l, ys, y, rfl, rfl, h1, h2, h3 _ rfl⟩) hs⟩) hbase hfew hline hs rfl
/-- xs.pop(i) -/
theorem we_popAt (q : We X o σ H fun x H1 => ∃ l, x = .ref l ∧ (∃ xs, SqL X.K H1 l xs) ∧ We X e σ H1 fun y H2 => ∃ i xs k z, y = .int i ∧ H2 l = some (.lst xs) ∧ -(2 ^ 63) ≤ i ∧ i < 2 ^ 63 ∧ seqIndex? i xs.length = some k ∧ xs[k]? = some z ∧
      ∀ H3, H3 = upd H2 l (.lst (xs.eraseIdx k)) → Q z H3)
    (hbase : attributeBase o "pop" X.env (eval o X.env) = eval o X.env := by rfl)
    (hfew : ((backTo pos (starEach [e] X.env)).all (fun w => !w.1) && (backToKw pos (keywordEach [] X.env)).all (fun w => w.1.isSome)
      && decide (([e] : List Expr).length + ([] : List Keyword).length + (if ([] : List Keyword).isEmpty then 0 else 1) < 30)) = true := by rfl)
    (hline : (apos.endLine == pos.line) = true := by rfl) (hs : starEach [e] X.env = (false, eval e X.env) :: starEach [] X.env := by rfl) : We X (.Call (.Attribute o "pop" apos) [e] [] pos) σ H Q :=
  we_bm PySem.F.plainAttrs_list PySem.F.slot_list_pop PySem.F.type_list_pop mt_popAt (we_imp q fun x H1 ⟨l, ex, hx, q1⟩ => ex ▸ ⟨.inl ⟨rfl, hx⟩,
    wa_cons (we_imp q1 fun y H2 ⟨i, ys, k, z, ey, h1, h2, h3, h4, h5, h6⟩ => wa_nil (ey ▸ ⟨l, ys, i, k, z, rfl, rfl, h1, h2, h3, h4, h5, h6 _ rfl⟩)) hs⟩) hbase hfew hline hs rfl
/-- d.pop(k), the key is there -/
theorem we_dpop (q : We X o σ H fun x H1 => ∃ a, x = .ref a ∧ IsD H1 a ∧ We X e σ H1 fun y H2 => ∃ kvs k v, H2 a = some (.dK kvs) ∧ y = kV k ∧ valV kvs k = some v ∧ ∀ H3, H3 = upd H2 a (.dK (dropK kvs k)) → Q v H3)
    (m : M1 X o "pop" apos e pos) : We X (.Call (.Attribute o "pop" apos) [e] [] pos) σ H Q :=
  of_pe (pe_dpop1 We.pe We.pe m) (we_imp q fun x H1 ⟨a, ex, hx, q1⟩ => ⟨a, ex, hx, we_imp q1 fun y H2 ⟨kvs, k, v, h1, h2, h3, h4⟩ => ⟨kvs, k, v, h1, h2, h3, h4 _ rfl⟩⟩)
theorem own_set {QH : Hp → Prop} {k : Nat} (h : Own H L) (m : pt p (.lst xs) ∈ L) (r : Rp (pt p (.lst xs)) (pt p (.lst (xs.set k v))) L L') (hk : ixN xs.length i = some k) (q : ∀ H', Own H' L' → QH H') :
    rSetL (.ref p) (.int i) v H QH := ⟨p, xs, i, k, rfl, rfl, h.pt m, hk, q _ (h.wr r ntL)⟩
theorem own_dput {kvs : List (Key × V)} {k : Key} (h : Own H L) (m : pt p (.dK kvs) ∈ L) (r : Rp (pt p (.dK kvs)) (pt p (.dK (putK kvs k v))) L L') (hs : kvs.length < sizeLine) (q : ∀ H', Own H' L' → D.nx σ H') :
    ∃ d H4, V.ref p = .ref d ∧ DPut H d (kV k) v H4 ∧ D.nx σ H4 := ⟨p, _, rfl, DPut.k (h.pt m) hs, q _ (h.wr r ntK)⟩
theorem own_dputT {kvs : List (List Key × V)} {k : List Key} {t : Addr} (h : Own H L) (m : pt p (.dT kvs) ∈ L) (r : Rp (pt p (.dT kvs)) (pt p (.dT (putK kvs k v))) L L') (ht : H t = some (.tup (k.map kV))) (hs : kvs.length < sizeLine) (q : ∀ H', Own H' L' → D.nx σ H') :
    ∃ d H4, V.ref p = .ref d ∧ DPut H d (.ref t) v H4 ∧ D.nx σ H4 := ⟨p, _, rfl, DPut.t (h.pt m) ht hs, q _ (h.wr r ntT)⟩
end
end Sh
namespace Sh
open PySem PySem.Spec L2 PyProof.Rows
/-! ### settings -/
def isWhole : PyData → Int → Int → Bool
  | .int i, lo, hi => decide (lo ≤ i) && decide (i ≤ hi)
  | _, _, _ => false
def isOne (a b : Str) : PyData → Bool
  | .str s => decide (s = a) || decide (s = b)
  | _ => false
def areSettings : PyData → Bool
  | .tuple [a, b, c, d] => isWhole a 1 60 && isWhole b 1 1000 && isOne "first" "last" c && isOne "worn" "round" d
  | _ => false
def isHandle (n r : Int) : PyData → Bool
  | .tuple [a, b] => isWhole a 0 (n - 1) && isWhole b 0 (r - 1)
  | _ => false
def spIsWhole (K : PySem.W.Frag) : Sp := fun vs H Q _ => ∃ (v : V) (d : PyData) (lo hi : Int), vs = [v, .int lo, .int hi] ∧ Dp K H v d ∧ Q (.bl (isWhole d lo hi)) H
def spAreSettings (K : PySem.W.Frag) : Sp := fun vs H Q _ => ∃ (v : V) (d : PyData), vs = [v] ∧ Dp K H v d ∧ Q (.bl (areSettings d)) H
def spChecked (K : PySem.W.Frag) (C : Cl) : Sp := fun vs H Q E => ∃ (v : V) (d : PyData), vs = [v] ∧ Dp K H v d ∧ (areSettings d = true → Q v H) ∧ (areSettings d = false → E (.ref C.NoSettings) none H)
def spNeedWorth (K : PySem.W.Frag) (C : Cl) : Sp := fun vs H Q E => ∃ (v : V) (d : PyData), vs = [v] ∧ Dp K H v d ∧ (isWhole d 0 9999 = true → Q .non H) ∧ (isWhole d 0 9999 = false → E (.ref C.NoWorth) none H)
/-- at least two things in a tuple, the first two are ints -/
def SetsAt (K : PySem.W.Frag) (H : Hp) (p : V) (n r : Int) : Prop := ∃ (a : Addr) (c d : V), p = .ref a ∧ SqT K H a [.int n, .int r, c, d]
def spIsHandle (K : PySem.W.Frag) : Sp := fun vs H Q _ => ∃ (s v : V) (n r : Int) (d : PyData), vs = [s, v] ∧ SetsAt K H s n r ∧ Dp K H v d ∧ Q (.bl (isHandle n r d)) H
def spNeedHandle (K : PySem.W.Frag) (C : Cl) : Sp := fun vs H Q E => ∃ (s v : V) (n r : Int) (d : PyData), vs = [s, v] ∧ SetsAt K H s n r ∧ Dp K H v d ∧
  (isHandle n r d = true → Q .non H) ∧ (isHandle n r d = false → E (.ref C.NoHandle) none H)
theorem ite_b {A B : Prop} {k : Bool} (h1 : k = true → A) (h2 : k = false → B) : if k = true then A else B := by
  cases k
  · rw [if_neg Bool.false_ne_true]; exact h2 rfl
  · rw [if_pos rfl]; exact h1 rfl
theorem ite_t {A B : Prop} {k : Bool} (e : k = true) (h : A) : if k = true then A else B := by rw [if_pos e]; exact h
theorem ite_f {A B : Prop} {k : Bool} (e : k = false) (h : B) : if k = true then A else B := by rw [e, if_neg Bool.false_ne_true]; exact h
section
variable {K : PySem.W.Frag}
theorem Dp.tupI {H : Hp} {v : V} {ds : List PyData} (h : Dp K H v (.tuple ds)) : ∃ a xs, v = .ref a ∧ SqT K H a xs ∧ DpAll K H xs ds := by
  cases h with
  | tup h1 h2 => exact ⟨_, _, rfl, h1, h2⟩
theorem DpAll.len {H : Hp} : ∀ {xs : List V} {ds : List PyData}, DpAll K H xs ds → xs.length = ds.length
  | _, _, .nil => rfl
  | _, _, .cons _ t => by rw [List.length_cons, List.length_cons, DpAll.len t]
theorem inV2 (x : V) (a b : V) : inV x [a, b] = (eqV a x || eqV b x) := by simp [inV]
theorem eqV_str (a b : Str) : eqV (.str a) (.str b) = decide (b = a) := by
  show decide (a = b) = _
  by_cases e : a = b
  · subst e; rfl
  · rw [decide_eq_false e, decide_eq_false (fun z => e z.symm)]
end
/-! ### a store: what it holds, plainly -/
inductive Er where
  | NoSettings | NoWorth | NoHandle | Stale | Full | NoPlace | NoList | NoNumber | NotEmpty | NoDeed
  deriving DecidableEq
def Cl.of (C : Cl) : Er → Addr
  | .NoSettings => C.NoSettings
  | .NoWorth => C.NoWorth
  | .NoHandle => C.NoHandle
  | .Stale => C.Stale
  | .Full => C.Full
  | .NoPlace => C.NoPlace
  | .NoList => C.NoList
  | .NoNumber => C.NoNumber
  | .NotEmpty => C.NotEmpty
  | .NoDeed => C.NoDeed
structure SS where
  n : Int
  r : Int
  last : Bool
  rnd : Bool
  cs : List Int
  ws : List (Int × V)
  ln : List Int
  gn : List Int
/-- the slots 0, 1, .. -/
def slots (k : Nat) : List Int := (List.range k).map fun (i : Nat) => (i : Int)
structure SS.Ok (S : SS) : Prop where
  n1 : 1 ≤ S.n
  n60 : S.n ≤ 60
  r1 : 1 ≤ S.r
  rk : S.r ≤ 1000
  len : (S.cs.length : Int) ≤ S.n
  cr : ∀ c ∈ S.cs, 0 ≤ c ∧ c < S.r
  parts : (S.ws.map (·.1) ++ (S.ln ++ S.gn)).Perm (slots S.cs.length)
def SS.cnt (S : SS) (s : Int) : Int := S.cs.getD s.toNat 0
def asH (n r : Int) : PyData → Option (Int × Int)
  | .tuple [.int s, .int c] => if 0 ≤ s ∧ s ≤ n - 1 ∧ 0 ≤ c ∧ c ≤ r - 1 then some (s, c) else none
  | _ => none
def SS.holds (S : SS) (s c : Int) : Bool := (valV S.ws s).isSome && decide (S.cnt s = c)
def SS.at (S : SS) (d : PyData) : Except Er (Int × Int) := match asH S.n S.r d with
  | none => .error .NoHandle
  | some (s, c) => if S.holds s c = true then .ok (s, c) else .error .Stale
/-- a thing comes -/
def SS.putIn (S : SS) (v : V) : Except Er ((Int × Int) × SS) :=
  if S.ln ≠ [] then
    let s := if S.last then S.ln.getLastD 0 else S.ln.headD 0
    .ok ((s, S.cnt s), { S with ln := if S.last then S.ln.dropLast else S.ln.tail, ws := putK S.ws s v })
  else if (S.cs.length : Int) < S.n then .ok ((S.cs.length, 0), { S with cs := S.cs ++ [0], ws := putK S.ws (S.cs.length : Int) v })
  else .error .Full
def SS.dropAt (S : SS) (s : Int) : SS :=
  if S.cnt s + 1 < S.r then { S with cs := S.cs.set s.toNat (S.cnt s + 1), ln := S.ln ++ [s], ws := dropK S.ws s }
  else if S.rnd = true then { S with cs := S.cs.set s.toNat 0, ln := S.ln ++ [s], ws := dropK S.ws s }
  else { S with gn := S.gn ++ [s], ws := dropK S.ws s }
def ordS (b : Bool) : Str := if b then "last" else "first"
def endS (b : Bool) : Str := if b then "round" else "worn"
def SS.sets (S : SS) : List V := [.int S.n, .int S.r, .str (ordS S.last), .str (endS S.rnd)]
def kw (ws : List (Int × V)) : List (Key × V) := ws.map fun p => (Sum.inl p.1, p.2)
def iv (xs : List Int) : List V := xs.map V.int
structure StAd where
  (dx s c w l g : Addr)
def sflds (q : StAd) : List (Str × V) := [("settings", .ref q.s), ("counts", .ref q.c), ("worths", .ref q.w), ("line", .ref q.l), ("gone", .ref q.g)]
def storeCells (C p : Addr) (S : SS) (q : StAd) : List Asn := [pt p (.ins C q.dx (sflds q)), pt q.c (.lst (iv S.cs)), pt q.w (.dK (kw S.ws)), pt q.l (.lst (iv S.ln)), pt q.g (.lst (iv S.gn)), tp q.s S.sets]
/-- a store stands at p -/
def StoreAt (C p : Addr) (S : SS) : Asn := ex fun q => cj (storeCells C p S q)
theorem StoreAt.op {H : Hp} {C p : Addr} {S : SS} {L : List Asn} (h : Own H (StoreAt C p S :: L)) :
    ∃ q : StAd, Own H (pt p (.ins C q.dx (sflds q)) :: pt q.c (.lst (iv S.cs)) :: pt q.w (.dK (kw S.ws)) :: pt q.l (.lst (iv S.ln)) :: pt q.g (.lst (iv S.gn)) :: tp q.s S.sets :: L) := by
  obtain ⟨q, h⟩ := h.exI
  exact ⟨q, h.cjI⟩
theorem StoreAt.cl {H : Hp} {C p : Addr} {S : SS} {L : List Asn} (q : StAd)
    (h : Own H (pt p (.ins C q.dx (sflds q)) :: pt q.c (.lst (iv S.cs)) :: pt q.w (.dK (kw S.ws)) :: pt q.l (.lst (iv S.ln)) :: pt q.g (.lst (iv S.gn)) :: tp q.s S.sets :: L)) :
    Own H (StoreAt C p S :: L) := Own.exE q (Own.cjE (L1 := storeCells C p S q) h)
theorem StoreAt.cl1 {H : Hp} {C p : Addr} {S : SS} {A : Asn} {L : List Asn} (q : StAd)
    (h : Own H (pt p (.ins C q.dx (sflds q)) :: pt q.c (.lst (iv S.cs)) :: pt q.w (.dK (kw S.ws)) :: pt q.l (.lst (iv S.ln)) :: pt q.g (.lst (iv S.gn)) :: tp q.s S.sets :: A :: L)) :
    Own H (A :: StoreAt C p S :: L) := (StoreAt.cl q h).front (.there .here)
theorem valV_kw (ws : List (Int × V)) (s : Int) : valV (kw ws) (Sum.inl s : Key) = valV ws s := by
  induction ws with
  | nil => rfl
  | cons p r ih =>
    by_cases e : p.1 = s
    · rw [valV_pos e]; exact valV_pos (p := ((Sum.inl p.1 : Key), p.2)) (by rw [e])
    · rw [valV_neg e, ← ih]; exact valV_neg (p := ((Sum.inl p.1 : Key), p.2)) (fun z => e (Sum.inl.inj z))
theorem any_kw (ws : List (Int × V)) (s : Int) : ((kw ws).any fun kv => decide (kv.1 = (Sum.inl s : Key))) = ws.any fun kv => decide (kv.1 = s) := by
  unfold kw
  rw [List.any_map]
  congr 1
  funext p
  show decide ((Sum.inl p.1 : Key) = Sum.inl s) = decide (p.1 = s)
  exact decide_eq_decide.mpr ⟨fun z => Sum.inl.inj z, fun z => by rw [z]⟩
theorem putK_kw (ws : List (Int × V)) (s : Int) (v : V) : putK (kw ws) (Sum.inl s : Key) v = kw (putK ws s v) := by
  unfold putK
  rw [any_kw]
  split
  · unfold kw
    rw [List.map_map, List.map_map]
    refine List.map_congr_left fun p _ => ?_
    show (if (Sum.inl p.1 : Key) = Sum.inl s then _ else _) = _
    by_cases e : p.1 = s
    · simp [e]
    · have : ¬ (Sum.inl p.1 : Key) = Sum.inl s := fun z => e (Sum.inl.inj z)
      simp [e, this]
  · simp [kw]
theorem dropK_kw (ws : List (Int × V)) (s : Int) : dropK (kw ws) (Sum.inl s : Key) = kw (dropK ws s) := by
  unfold dropK kw
  rw [List.filter_map]
  congr 1
  refine List.filter_congr fun p _ => ?_
  show decide ((Sum.inl p.1 : Key) ≠ Sum.inl s) = decide (p.1 ≠ s)
  exact decide_eq_decide.mpr ⟨fun z e => z (by rw [e]), fun z e => z (Sum.inl.inj e)⟩
theorem kw_len (ws : List (Int × V)) : (kw ws).length = ws.length := List.length_map _
theorem iv_len (xs : List Int) : (iv xs).length = xs.length := List.length_map _
/-! its plain laws -/
section
variable {S : SS} {s c : Int} {v : V}
theorem mem_slots {k : Nat} {s : Int} : s ∈ slots k ↔ 0 ≤ s ∧ s < k := by
  unfold slots
  rw [List.mem_map]
  constructor
  · rintro ⟨i, hi, rfl⟩
    rw [List.mem_range] at hi
    omega
  · intro h
    exact ⟨s.toNat, List.mem_range.mpr (by omega), by omega⟩
theorem slots_nd (k : Nat) : (slots k).Nodup := by
  unfold slots
  exact List.Pairwise.map _ (fun a b (h : a ≠ b) e => h (by omega)) List.nodup_range
theorem slots_succ (k : Nat) : slots (k + 1) = slots k ++ [(k : Int)] := by
  unfold slots
  rw [List.range_succ, List.map_append]; rfl
theorem valV_mem (ws : List (Int × V)) (s : Int) : (valV ws s).isSome = true ↔ s ∈ ws.map (·.1) := by
  rw [← valV_any, List.any_eq_true, List.mem_map]
  constructor
  · rintro ⟨p, hp, e⟩; exact ⟨p, hp, of_decide_eq_true e⟩
  · rintro ⟨p, hp, e⟩; exact ⟨p, hp, decide_eq_true e⟩
theorem SS.Ok.rngW (o : S.Ok) (h : s ∈ S.ws.map (·.1)) : 0 ≤ s ∧ s < S.cs.length := mem_slots.mp (o.parts.mem_iff.mp (List.mem_append_left _ h))
theorem SS.Ok.rngL (o : S.Ok) (h : s ∈ S.ln) : 0 ≤ s ∧ s < S.cs.length := mem_slots.mp (o.parts.mem_iff.mp (List.mem_append_right _ (List.mem_append_left _ h)))
theorem SS.Ok.rngG (o : S.Ok) (h : s ∈ S.gn) : 0 ≤ s ∧ s < S.cs.length := mem_slots.mp (o.parts.mem_iff.mp (List.mem_append_right _ (List.mem_append_right _ h)))
theorem SS.Ok.nd (o : S.Ok) : (S.ws.map (·.1) ++ (S.ln ++ S.gn)).Nodup := o.parts.nodup_iff.mpr (slots_nd _)
theorem SS.Ok.ndW (o : S.Ok) : (S.ws.map (·.1)).Nodup := (List.nodup_append.mp o.nd).1
theorem SS.Ok.total (o : S.Ok) : S.ws.length + S.ln.length + S.gn.length = S.cs.length := by
  have e := o.parts.length_eq
  rw [List.length_append, List.length_append, List.length_map] at e
  unfold slots at e
  rw [List.length_map, List.length_range] at e
  omega
theorem SS.Ok.lenC (o : S.Ok) : S.cs.length ≤ 60 := by have := o.len; have := o.n60; omega
theorem SS.Ok.lenW (o : S.Ok) : S.ws.length ≤ 60 := by have := o.total; have := o.lenC; omega
theorem SS.Ok.lenL (o : S.Ok) : S.ln.length ≤ 60 := by have := o.total; have := o.lenC; omega
theorem SS.Ok.lenG (o : S.Ok) : S.gn.length ≤ 60 := by have := o.total; have := o.lenC; omega
theorem at_cnt (h : 0 ≤ s ∧ s < S.cs.length) : atI (iv S.cs) s = some (.int (S.cnt s)) := by
  obtain ⟨k, rfl⟩ : ∃ k : Nat, s = k := ⟨s.toNat, by omega⟩
  refine atI_nat ?_
  unfold iv SS.cnt
  have hk : k < S.cs.length := by omega
  rw [List.getElem?_map, List.getElem?_eq_getElem hk]
  show some (V.int _) = some (V.int (S.cs.getD (k : Int).toNat 0))
  rw [Int.toNat_natCast, List.getD_eq_getElem?_getD, List.getElem?_eq_getElem hk]
  rfl
theorem asH_some {n r : Int} {d : PyData} (h : asH n r d = some (s, c)) : d = .tuple [.int s, .int c] ∧ 0 ≤ s ∧ s ≤ n - 1 ∧ 0 ≤ c ∧ c ≤ r - 1 := by
  unfold asH at h
  split at h
  · split at h
    · rename_i hh
      cases h
      exact ⟨rfl, hh⟩
    · cases h
  · cases h
theorem isHandle_asH (n r : Int) (d : PyData) : isHandle n r d = (asH n r d).isSome := by
  unfold isHandle asH
  split
  · rename_i a b
    cases a with
    | int s =>
      cases b with
      | int c =>
        show ((decide (0 ≤ s) && decide (s ≤ n - 1)) && (decide (0 ≤ c) && decide (c ≤ r - 1))) = _
        by_cases h : 0 ≤ s ∧ s ≤ n - 1 ∧ 0 ≤ c ∧ c ≤ r - 1
        · dsimp only
          rw [if_pos h]
          simp [h]
        · dsimp only
          rw [if_neg h]
          simp only [Option.isSome_none, Bool.and_eq_false_iff, decide_eq_false_iff_not]
          omega
      | _ => simp [isWhole]
    | _ => simp [isWhole]
  · rename_i h
    split
    · rename_i s c
      exact absurd rfl (h (.int s) (.int c))
    · rfl
theorem SS.holds_in (h : S.holds s c = true) : s ∈ S.ws.map (·.1) ∧ S.cnt s = c := by
  unfold SS.holds at h
  rw [Bool.and_eq_true] at h
  exact ⟨(valV_mem _ _).mp h.1, of_decide_eq_true h.2⟩
end
section
variable {q : StAd}
theorem sf1 : (sflds q).lookup ("settings" : Str) = some (.ref q.s) := by rfl
theorem sf2 : (sflds q).lookup ("counts" : Str) = some (.ref q.c) := by rfl
theorem sf3 : (sflds q).lookup ("worths" : Str) = some (.ref q.w) := by rfl
theorem sf4 : (sflds q).lookup ("line" : Str) = some (.ref q.l) := by rfl
theorem sf5 : (sflds q).lookup ("gone" : Str) = some (.ref q.g) := by rfl
end
/-! ### plain data: no bools, no dicts; compared, they are equal just when they are the same -/
def pl : Nat → PyData → Bool
  | _, .none => true
  | _, .int _ => true
  | _, .str x => PyData.canLay0 (.str x)
  | k + 1, .tuple xs => xs.all (pl k)
  | k + 1, .list xs => xs.all (pl k)
  | _, _ => false
theorem pl_all {k : Nat} (hk : ∀ d, pl k d = true → d.canLay0 = true ∧ d.depth ≤ k) : ∀ xs : List PyData, xs.all (pl k) = true → PyData.canLayAll0 xs = true ∧ PyData.depthAll xs ≤ k
  | [], _ => ⟨rfl, Nat.zero_le _⟩
  | x :: xs, h => by
    rw [List.all_cons, Bool.and_eq_true] at h
    obtain ⟨a, b⟩ := hk x h.1
    obtain ⟨c, d⟩ := pl_all hk xs h.2
    refine ⟨?_, ?_⟩
    · show (x.canLay0 && PyData.canLayAll0 xs) = true
      rw [a, c] <;> rfl
    · show max x.depth (PyData.depthAll xs) ≤ k
      omega
theorem pl_lay : ∀ (k : Nat) (d : PyData), pl k d = true → d.canLay0 = true ∧ d.depth ≤ k
  | _, .none, _ => ⟨rfl, Nat.zero_le _⟩
  | _, .int _, _ => ⟨rfl, Nat.zero_le _⟩
  | 0, .str x, h => ⟨by simpa [pl] using h, Nat.zero_le _⟩
  | _ + 1, .str x, h => ⟨by simpa [pl] using h, Nat.zero_le _⟩
  | k + 1, .tuple xs, h => by
    obtain ⟨a, b⟩ := pl_all (pl_lay k) xs (by simpa [pl] using h)
    exact ⟨a, Nat.succ_le_succ b⟩
  | k + 1, .list xs, h => by
    obtain ⟨a, b⟩ := pl_all (pl_lay k) xs (by simpa [pl] using h)
    exact ⟨a, Nat.succ_le_succ b⟩
  | 0, .tuple _, h => by simp [pl] at h
  | 0, .list _, h => by simp [pl] at h
  | 0, .bool _, h => by simp [pl] at h
  | 0, .dict _, h => by simp [pl] at h
  | _ + 1, .bool _, h => by simp [pl] at h
  | _ + 1, .dict _, h => by simp [pl] at h
theorem pl_shaped {k : Nat} {d : PyData} (h : pl k d = true) (hk : k ≤ 64) : SeqAt.shaped d = true := by
  obtain ⟨a, b⟩ := pl_lay k d h
  show (d.canLay0 && decide (d.depth ≤ 64)) = true
  rw [a, decide_eq_true (Nat.le_trans b hk)] <;> rfl
theorem eqvAll_iff {k : Nat} (hk : ∀ d e, pl k d = true → pl k e = true → (PyData.eqv d e = true ↔ d = e)) : ∀ xs ys : List PyData, xs.all (pl k) = true → ys.all (pl k) = true → (PyData.eqvAll xs ys = true ↔ xs = ys)
  | [], [], _, _ => by simp [PyData.eqvAll]
  | [], _ :: _, _, _ => by simp [PyData.eqvAll]
  | _ :: _, [], _, _ => by simp [PyData.eqvAll]
  | x :: xs, y :: ys, h1, h2 => by
    rw [List.all_cons, Bool.and_eq_true] at h1 h2
    show (PyData.eqv x y && PyData.eqvAll xs ys) = true ↔ _
    rw [Bool.and_eq_true, hk x y h1.1 h2.1, eqvAll_iff hk xs ys h1.2 h2.2, List.cons.injEq]
theorem pl_eqv : ∀ (k : Nat) (d e : PyData), pl k d = true → pl k e = true → (PyData.eqv d e = true ↔ d = e) := by
  intro k
  induction k with
  | zero =>
    intro d e h1 h2
    cases d <;> cases e <;> simp_all [pl, PyData.eqv]
  | succ k ih =>
    intro d e h1 h2
    cases d <;> cases e <;> simp_all [pl, PyData.eqv, eqvAll_iff ih]
    all_goals
      refine eqvAll_iff ih _ _ ?_ ?_
      · simpa using h1
      · simpa using h2
theorem eqv_true {k : Nat} {d : PyData} (h : pl k d = true) : PyData.eqv d d = true := (pl_eqv k d d h h).mpr rfl
theorem pl_up : ∀ (k : Nat) (d : PyData), pl k d = true → pl (k + 1) d = true
  | _, .none, _ => rfl
  | _, .int _, _ => rfl
  | 0, .str x, h => by simpa [pl] using h
  | _ + 1, .str x, h => by simpa [pl] using h
  | k + 1, .tuple xs, h => by
    rw [pl] at h ⊢
    exact List.all_eq_true.mpr fun x hx => pl_up k x (List.all_eq_true.mp h x hx)
  | k + 1, .list xs, h => by
    rw [pl] at h ⊢
    exact List.all_eq_true.mpr fun x hx => pl_up k x (List.all_eq_true.mp h x hx)
  | 0, .tuple _, h => by simp [pl] at h
  | 0, .list _, h => by simp [pl] at h
  | 0, .bool _, h => by simp [pl] at h
  | 0, .dict _, h => by simp [pl] at h
  | _ + 1, .bool _, h => by simp [pl] at h
  | _ + 1, .dict _, h => by simp [pl] at h
section
variable {X : Cx} {H : Hp} {Q : VK} {x y : V} {d e : PyData} {k j : Nat}
theorem wop_eqP (hr : Room k X.A) (h1 : Dp X.K H x d) (h2 : Dp X.K H y e) (p1 : pl j d = true) (p2 : pl j e = true) (hj : j ≤ 64) (q : ∀ b : Bool, (b = true ↔ d = e) → Q (.bl b) H) : Wop X (compareOp .Eq) x y H Q :=
  of_op (op_eqD hr.units) ⟨d, e, h1, h2, pl_shaped p1 hj, pl_shaped p2 hj, q _ (pl_eqv j d e p1 p2)⟩
theorem wop_neP (hr : Room k X.A) (h1 : Dp X.K H x d) (h2 : Dp X.K H y e) (p1 : pl j d = true) (p2 : pl j e = true) (hj : j ≤ 64) (q : ∀ b : Bool, (b = true ↔ d ≠ e) → Q (.bl b) H) : Wop X (compareOp .NotEq) x y H Q :=
  of_op (op_neD hr.units) ⟨d, e, h1, h2, pl_shaped p1 hj, pl_shaped p2 hj, q _ (by rw [Bool.not_eq_true', ← Bool.not_eq_true]; exact not_congr (pl_eqv j d e p1 p2))⟩
end
def ids (xs : List Int) : List PyData := xs.map PyData.int
theorem pl_ids (k : Nat) (xs : List Int) : pl (k + 1) (.list (ids xs)) = true := by
  rw [pl]
  unfold ids
  rw [List.all_map]
  exact List.all_eq_true.mpr fun x _ => by cases k <;> rfl
theorem dpAll_iv {K : PySem.W.Frag} {H : Hp} : ∀ xs : List Int, DpAll K H (iv xs) (ids xs)
  | [] => .nil
  | x :: xs => .cons (.int x) (dpAll_iv xs)
theorem ids_inj {xs ys : List Int} (h : ids xs = ids ys) : xs = ys := by
  induction xs generalizing ys with
  | nil => cases ys with
    | nil => rfl
    | cons _ _ => cases h
  | cons x xs ih => cases ys with
    | nil => cases h
    | cons y ys =>
      unfold ids at h
      rw [List.map_cons, List.map_cons, List.cons.injEq] at h
      rw [PyData.int.inj h.1, ih h.2]
theorem SS.Ok.new {n r : Int} {last rnd : Bool} (h1 : 1 ≤ n) (h2 : n ≤ 60) (h3 : 1 ≤ r) (h4 : r ≤ 1000) : SS.Ok ⟨n, r, last, rnd, [], [], [], []⟩ :=
  ⟨h1, h2, h3, h4, by show (0 : Int) ≤ n; omega, fun _ h => (by cases h), List.Perm.refl _⟩
/-! the promises of a store's methods -/
def setD (n r : Int) (last rnd : Bool) : PyData := .tuple [.int n, .int r, .str (ordS last), .str (endS rnd)]
def setV (n r : Int) (last rnd : Bool) : List V := [.int n, .int r, .str (ordS last), .str (endS rnd)]
theorem dtSet {H : Hp} {a : Addr} {n r : Int} {last rnd : Bool} (h : H a = some (.tup (setV n r last rnd))) : Dt H (.ref a) (setD n r last rnd) := .tup h (.cons (.int _) (.cons (.int _) (.cons (.str _) (.cons (.str _) .nil))))
theorem areSet {n r : Int} (last rnd : Bool) (h1 : 1 ≤ n) (h2 : n ≤ 60) (h3 : 1 ≤ r) (h4 : r ≤ 1000) : areSettings (setD n r last rnd) = true := by
  show ((decide (1 ≤ n) && decide (n ≤ 60)) && (decide (1 ≤ r) && decide (r ≤ 1000)) && isOne "first" "last" (.str (ordS last)) && isOne "worn" "round" (.str (endS rnd))) = true
  have e1 : isOne "first" "last" (.str (ordS last)) = true := by cases last <;> decide
  have e2 : isOne "worn" "round" (.str (endS rnd)) = true := by cases rnd <;> decide
  rw [e1, e2]
  simp [h1, h2, h3, h4]
def SS.new (n r : Int) (last rnd : Bool) : SS := ⟨n, r, last, rnd, [], [], [], []⟩
def spInitS (K : PySem.W.Frag) (C : Cl) : Sp := fun vs H Q E => ∃ (x dx : Addr) (v : V) (L : List Asn), vs = [.ref x, v] ∧ Own H (pt x (.ins C.Store dx []) :: L) ∧
  ((∃ (a : Addr) (n r : Int) (last rnd : Bool), v = .ref a ∧ tp a (setV n r last rnd) ∈ L ∧ 1 ≤ n ∧ n ≤ 60 ∧ 1 ≤ r ∧ r ≤ 1000 ∧ ∀ H', Own H' (StoreAt C.Store x (SS.new n r last rnd) :: L) → Q .non H') ∨
   (∃ d : PyData, Dp K H v d ∧ areSettings d = false ∧ E (.ref C.NoSettings) none H))
def spPutIn (C : Cl) : Sp := fun vs H Q E => ∃ (p : Addr) (S : SS) (v : V) (L : List Asn), vs = [.ref p, v] ∧ S.Ok ∧ Own H (StoreAt C.Store p S :: L) ∧
  (∀ s c S', S.putIn v = .ok ((s, c), S') → ∀ t H', Own H' (tp t [.int s, .int c] :: StoreAt C.Store p S' :: L) → Q (.ref t) H') ∧ (∀ e, S.putIn v = .error e → ∀ H', Own H' (StoreAt C.Store p S :: L) → E (.ref (C.of e)) none H')
def spPut (K : PySem.W.Frag) (C : Cl) : Sp := fun vs H Q E => ∃ (p : Addr) (S : SS) (v : V) (d : PyData) (L : List Asn), vs = [.ref p, v] ∧ S.Ok ∧ Own H (StoreAt C.Store p S :: L) ∧ Dp K H v d ∧
  (isWhole d 0 9999 = false → E (.ref C.NoWorth) none H) ∧
  (isWhole d 0 9999 = true → ∀ s c S', S.putIn v = .ok ((s, c), S') → ∀ t H', Own H' (tp t [.int s, .int c] :: StoreAt C.Store p S' :: L) → Q (.ref t) H') ∧
  (isWhole d 0 9999 = true → ∀ e, S.putIn v = .error e → ∀ H', Own H' (StoreAt C.Store p S :: L) → E (.ref (C.of e)) none H')
/-- a method that asks of a handle, and changes nothing -/
def spAsk (K : PySem.W.Frag) (C : Cl) (R : SS → Int × Int → V → Prop) : Sp := fun vs H Q E => ∃ (p : Addr) (S : SS) (v : V) (d : PyData) (L : List Asn), vs = [.ref p, v] ∧ S.Ok ∧ Own H (StoreAt C.Store p S :: L) ∧ Dp K H v d ∧
  (∀ sc, S.at d = .ok sc → ∀ y, R S sc y → Q y H) ∧ (∀ e, S.at d = .error e → E (.ref (C.of e)) none H)
def spNeed (K : PySem.W.Frag) (C : Cl) : Sp := spAsk K C fun _ _ y => y = .non
def spGet (K : PySem.W.Frag) (C : Cl) : Sp := spAsk K C fun S sc y => valV S.ws sc.1 = some y
def spHas (K : PySem.W.Frag) (C : Cl) : Sp := fun vs H Q E => ∃ (p : Addr) (S : SS) (v : V) (d : PyData) (L : List Asn), vs = [.ref p, v] ∧ S.Ok ∧ Own H (StoreAt C.Store p S :: L) ∧ Dp K H v d ∧
  ∀ b : Bool, (b = true ↔ ∃ sc, S.at d = .ok sc) → Q (.bl b) H
def spHold (K : PySem.W.Frag) (C : Cl) : Sp := fun vs H Q E => ∃ (p : Addr) (S : SS) (t : Addr) (s c : Int) (L : List Asn), vs = [.ref p, .ref t] ∧ S.Ok ∧ Own H (StoreAt C.Store p S :: L) ∧ SqT K H t [.int s, .int c] ∧ Q (.bl (S.holds s c)) H
def spDrop (K : PySem.W.Frag) (C : Cl) : Sp := fun vs H Q E => ∃ (p : Addr) (S : SS) (v : V) (d : PyData) (L : List Asn), vs = [.ref p, v] ∧ S.Ok ∧ Own H (StoreAt C.Store p S :: L) ∧ Dp K H v d ∧
  (∀ s c y, S.at d = .ok (s, c) → valV S.ws s = some y → ∀ H', Own H' (StoreAt C.Store p (S.dropAt s) :: L) → Q y H') ∧ (∀ e, S.at d = .error e → E (.ref (C.of e)) none H)
def SS.chg (S : SS) (s : Int) (v : V) : SS := { S with ws := putK S.ws s v }
def spChange (K : PySem.W.Frag) (C : Cl) : Sp := fun vs H Q E => ∃ (p : Addr) (S : SS) (v w : V) (d dw : PyData) (L : List Asn), vs = [.ref p, v, w] ∧ S.Ok ∧ Own H (StoreAt C.Store p S :: L) ∧ Dp K H v d ∧ Dp K H w dw ∧
  (∀ e, S.at d = .error e → E (.ref (C.of e)) none H) ∧ (∀ sc, S.at d = .ok sc → isWhole dw 0 9999 = false → E (.ref C.NoWorth) none H) ∧
  (∀ s c y, S.at d = .ok (s, c) → isWhole dw 0 9999 = true → valV S.ws s = some y → ∀ H', Own H' (StoreAt C.Store p (S.chg s w) :: L) → Q y H')
/-- a method without arguments that tells a number -/
def spTell (C : Cl) (R : SS → V) : Sp := fun vs H Q _ => ∃ (p : Addr) (S : SS) (L : List Asn), vs = [.ref p] ∧ S.Ok ∧ Own H (StoreAt C.Store p S :: L) ∧ Q (R S) H
/-- .. that tells a new list of ints -/
def spTellL (C : Cl) (R : SS → List Int) : Sp := fun vs H Q _ => ∃ (p : Addr) (S : SS) (L : List Asn), vs = [.ref p] ∧ S.Ok ∧ Own H (StoreAt C.Store p S :: L) ∧
  ∀ l H', Own H' (pt l (.lst (iv (R S))) :: StoreAt C.Store p S :: L) → Q (.ref l) H'
/-! more of a store's plain laws -/
section
variable {S : SS} {s c : Int} {v : V} {X : Cx} {H : Hp} {Q : VK} {L : List Asn} {p l : Addr}
theorem wop_neNil {k : Nat} {xs : List Int} {e : Addr} (hr : Room k X.A) (h : Own H L) (m : pt l (.lst (iv xs)) ∈ L) (m2 : pt e (.lst []) ∈ L) (q : Q (.bl (!decide (xs = []))) H) : Wop X (compareOp .NotEq) (.ref l) (.ref e) H Q := by
  refine wop_neP (j := 1) hr (.lst (SqL.of (h.pt m)) (dpAll_iv xs)) (.lst (SqL.of (h.pt m2)) .nil) (pl_ids 0 xs) rfl (by decide) fun b hb => ?_
  have : b = !decide (xs = []) := by
    cases xs with
    | nil => cases b with
      | false => rfl
      | true => exact absurd rfl (hb.mp rfl)
    | cons x xs => cases b with
      | true => rfl
      | false => exact absurd (hb.mpr (fun z => by cases z)) Bool.false_ne_true
  rw [this]; exact q
theorem iv_get {xs : List Int} {k : Nat} (h : k < xs.length) : (iv xs)[k]? = some (.int (xs.getD k 0)) := by
  unfold iv
  rw [List.getElem?_map, List.getElem?_eq_getElem h, List.getD_eq_getElem?_getD, List.getElem?_eq_getElem h]
  rfl
theorem iv_erase (xs : List Int) (k : Nat) : (iv xs).eraseIdx k = iv (xs.eraseIdx k) := by
  unfold iv
  induction xs generalizing k with
  | nil => rfl
  | cons x xs ih => cases k with
    | zero => rfl
    | succ k => simp [ih k]
theorem iv_app (xs : List Int) (k : Int) : iv xs ++ [V.int k] = iv (xs ++ [k]) := by simp [iv]
theorem iv_set (xs : List Int) (j : Nat) (k : Int) : (iv xs).set j (V.int k) = iv (xs.set j k) := by simp [iv, List.map_set]
theorem getLastD_eq (xs : List Int) (h : xs ≠ []) : xs.getLastD 0 = xs.getD (xs.length - 1) 0 := by
  rw [List.getLastD_eq_getLast?, List.getLast?_eq_getElem?, List.getD_eq_getElem?_getD]
theorem headD_eq (xs : List Int) : xs.headD 0 = xs.getD 0 0 := by cases xs <;> rfl
theorem erase_last (xs : List Int) : xs.eraseIdx (xs.length - 1) = xs.dropLast := by
  rw [List.dropLast_eq_take, List.eraseIdx_eq_take_drop_succ]
  cases xs with
  | nil => rfl
  | cons x xs =>
    have : (x :: xs).length - 1 + 1 = (x :: xs).length := by simp
    rw [this, List.drop_length, List.append_nil]
theorem ixN_of {n : Nat} {i : Int} (h : 0 ≤ i ∧ i < n) : ixN n i = some i.toNat := by
  unfold ixN
  rw [if_pos h.1, if_pos h.2]
theorem SS.at_ok {d : PyData} (h : S.at d = .ok (s, c)) : d = .tuple [.int s, .int c] ∧ S.holds s c = true ∧ 0 ≤ s ∧ s ≤ S.n - 1 ∧ 0 ≤ c ∧ c ≤ S.r - 1 := by
  unfold SS.at at h
  split at h
  · cases h
  · rename_i s' c' hh
    split at h
    · rename_i hl
      cases h
      obtain ⟨e, r⟩ := asH_some hh
      exact ⟨e, hl, r⟩
    · cases h
end
section
variable {H : Hp} {L : List Asn} {C p : Addr} {S : SS} {q : StAd}
theorem StoreAt.ins (h : Own H L) (m : StoreAt C p S ∈ L) : ∃ q : StAd, H p = some (.ins C q.dx (sflds q)) := by
  obtain ⟨q, s⟩ := h.get m
  exact ⟨q, SLs.get (A := pt p (.ins C q.dx (sflds q))) List.mem_cons_self s⟩
theorem recvS {R : Addr → Prop} {n : Str} (h : Own H L) (m : StoreAt C p S ∈ L) (hl : ∀ q : StAd, (sflds q).lookup n = none) (k : R p) :
    ∃ a dx fs, V.ref p = .ref a ∧ H a = some (.ins C dx fs) ∧ fs.lookup n = none ∧ R a := by
  obtain ⟨q, e⟩ := StoreAt.ins h m
  exact ⟨p, _, _, rfl, e, hl q, k⟩
theorem recvP {R : Addr → Prop} {n : Str} {dx : Addr} {fs : List (Str × V)} (h : Own H L) (m : pt p (.ins C dx fs) ∈ L) (hl : fs.lookup n = none) (k : R p) :
    ∃ a dx fs, V.ref p = .ref a ∧ H a = some (.ins C dx fs) ∧ fs.lookup n = none ∧ R a := ⟨p, _, _, rfl, h.pt m, hl, k⟩
theorem asH_none {n r : Int} {d : PyData} (h : isHandle n r d = false) : asH n r d = none := by
  have e := isHandle_asH n r d
  rw [h] at e
  cases z : asH n r d with
  | none => rfl
  | some x => rw [z] at e; cases e
theorem sets_at {K : PySem.W.Frag} (h : Own H L) (m : tp q.s S.sets ∈ L) : SetsAt K H (.ref q.s) S.n S.r := ⟨_, _, _, rfl, SqT.of (h.tp m)⟩
end
/-! ### what the laws draw -/
def sq (K : PySem.W.Frag) (a : Addr) (xs : List V) : Asn := ⟨fun _ h => SqL K h a xs, fun _ hh s => by
  rcases s with (s | ⟨o, s⟩) | s
  · exact .inl (.inl (hh _ _ s))
  · exact .inl (.inr ⟨o, hh _ _ s⟩)
  · exact .inr s⟩
theorem Own.one {H : Hp} {A : Asn} (a : A.P H H) : Own H [A] := ⟨⟨H, fun _ => none, fun _ => .inr rfl, HLe.rfl, fun _ _ e => (by cases e), a, trivial⟩⟩
theorem Own.sq {K : PySem.W.Frag} {H : Hp} {L : List Asn} {a : Addr} {xs : List V} (x : Own H L) (m : sq K a xs ∈ L) : SqL K H a xs := x.get (A := Sh.sq K a xs) m
def zs (n : Nat) : List V := List.replicate n (.int 0)
/-- the draws so far -/
def town (t : Addr) (n : Nat) : Asn := pt t (.lst (zs n))
theorem zs_app (n : Nat) : zs n ++ [V.int 0] = zs (n + 1) := by unfold zs; rw [List.replicate_succ']
def spCell (K : PySem.W.Frag) : Sp := fun vs H Q _ => ∃ (a : Addr) (ns : List Int) (k : Int) (L : List Asn), vs = [.ref a, .int k] ∧ Own H L ∧ sq K a (iv ns) ∈ L ∧ 0 ≤ k ∧ ∀ i H', Own H' L → Q (.int i) H'
def spMixed (K : PySem.W.Frag) : Sp := fun vs H Q _ => ∃ (a : Addr) (ns : List Int) (k m : Int) (L : List Asn), vs = [.ref a, .int k, .int m] ∧ Own H L ∧ sq K a (iv ns) ∈ L ∧ 0 ≤ k ∧ 0 < m ∧ ∀ i H', 0 ≤ i → i < m → Own H' L → Q (.int i) H'
def spDraw (K : PySem.W.Frag) : Sp := fun vs H Q _ => ∃ (a t : Addr) (ns : List Int) (n : Nat) (m : Int) (L : List Asn), vs = [.ref a, .ref t, .int m] ∧ Own H (sq K a (iv ns) :: town t n :: L) ∧ n ≤ 1000000 ∧ 0 < m ∧
  ∀ i H', 0 ≤ i → i < m → Own H' (sq K a (iv ns) :: town t (n + 1) :: L) → Q (.int i) H'
def spPick (K : PySem.W.Frag) : Sp := fun vs H Q _ => ∃ (a t l : Addr) (ns : List Int) (n : Nat) (xs : List V) (L : List Asn), vs = [.ref a, .ref t, .ref l] ∧ Own H (sq K a (iv ns) :: town t n :: pt l (.lst xs) :: L) ∧ n ≤ 1000000 ∧ 0 < xs.length ∧
  ∀ v H', v ∈ xs → Own H' (sq K a (iv ns) :: town t (n + 1) :: pt l (.lst xs) :: L) → Q v H'
def spSettings (K : PySem.W.Frag) : Sp := fun vs H Q _ => ∃ (a t : Addr) (ns : List Int) (n : Nat) (L : List Asn), vs = [.ref a, .ref t] ∧ Own H (sq K a (iv ns) :: town t n :: L) ∧ n ≤ 999990 ∧
  ∀ s m r la rn H', m ∈ ([1, 2, 3, 4, 6, 60] : List Int) → r ∈ ([1, 2, 3, 5, 1000] : List Int) → Own H' (tp s (setV m r la rn) :: sq K a (iv ns) :: town t (n + 4) :: L) → Q (.ref s) H'
theorem mem_iv {v : V} {xs : List Int} (h : v ∈ iv xs) : ∃ i, v = .int i ∧ i ∈ xs := by
  obtain ⟨i, hi, e⟩ := List.mem_map.mp h
  exact ⟨i, e.symm, hi⟩
theorem rngN {m : Int} (h : m ∈ ([1, 2, 3, 4, 6, 60] : List Int)) : 1 ≤ m ∧ m ≤ 60 := by
  simp only [List.mem_cons, List.not_mem_nil, or_false] at h
  omega
theorem rngR {m : Int} (h : m ∈ ([1, 2, 3, 5, 1000] : List Int)) : 1 ≤ m ∧ m ≤ 1000 := by
  simp only [List.mem_cons, List.not_mem_nil, or_false] at h
  omega
/-- a thing of any kind: plain, or a list of plain things -/
def dl (v : V) (d : PyData) : Asn := ⟨fun T h => Dt T v d ∨ ∃ a xs ds, v = .ref a ∧ d = .list ds ∧ h a = some (.lst xs) ∧ DtAll T xs ds, fun ht hh s => by
  rcases s with s | ⟨a, xs, ds, e1, e2, e3, e4⟩
  · exact .inl (s.mono ht)
  · exact .inr ⟨a, xs, ds, e1, e2, hh _ _ e3, e4.mono ht⟩⟩
theorem Own.dl {K : PySem.W.Frag} {H : Hp} {L : List Asn} {v : V} {d : PyData} (x : Own H L) (m : dl v d ∈ L) : Dp K H v d := by
  rcases x.get (A := Sh.dl v d) m with s | ⟨a, xs, ds, rfl, rfl, e3, e4⟩
  · exact s.dp
  · exact .lst (SqL.of e3) e4.dp
theorem Own.dp {K : PySem.W.Frag} {H : Hp} {L : List Asn} {v : V} {d : PyData} (x : Own H L) (m : Sh.dt v d ∈ L) : Dp K H v d := (x.dt m).dp
theorem SLs.toDl {T h : Hp} {L : List Asn} {v : V} {d : PyData} (s : SLs T h (Sh.dt v d :: L)) : SLs T h (Sh.dl v d :: L) := by
  obtain ⟨h1, h2, a, b, c, x, s⟩ := s
  exact ⟨h1, h2, a, b, c, .inl x, s⟩
theorem Own.addDl {H : Hp} {L : List Asn} {v : V} {d : PyData} (x : Own H L) (e : Dt H v d) : Own H (Sh.dl v d :: L) := x.add (.inl e)
theorem Own.toDl {H : Hp} {L : List Asn} {a : Addr} {xs : List V} {ds : List PyData} (x : Own H (Sh.pt a (.lst xs) :: L)) (e : DtAll H xs ds) : Own H (Sh.dl (.ref a) (.list ds) :: L) := by
  obtain ⟨h1, h2, q1, q2, q3, y, s⟩ := x.s
  exact ⟨⟨h1, h2, q1, q2, q3, .inr ⟨a, xs, ds, rfl, rfl, y, e⟩, s⟩⟩
def erI : Er → Int
  | .NoSettings => 0
  | .NoWorth => 1
  | .NoHandle => 2
  | .Stale => 3
  | .Full => 4
  | .NoPlace => 5
  | .NoList => 6
  | .NoNumber => 7
  | .NotEmpty => 8
  | .NoDeed => 9
def refD (e : Er) : PyData := .tuple [.str "refused", .int (erI e)]
theorem pl_ref (e : Er) : pl 1 (refD e) = true := by cases e <;> decide +kernel
theorem DtAll.snoc {T : Hp} : ∀ {vs : List V} {ds : List PyData} {v : V} {d : PyData}, DtAll T vs ds → Dt T v d → DtAll T (vs ++ [v]) (ds ++ [d])
  | _, _, _, _, .nil, h => .cons h .nil
  | _, _, _, _, .cons a t, h => .cons a (DtAll.snoc t h)
theorem DtAll.len {T : Hp} : ∀ {vs : List V} {ds : List PyData}, DtAll T vs ds → vs.length = ds.length
  | _, _, .nil => rfl
  | _, _, .cons _ t => by rw [List.length_cons, List.length_cons, DtAll.len t]
theorem Own.addDs {H : Hp} {L : List Asn} {vs : List V} {ds : List PyData} (x : Own H L) (e : DtAll H vs ds) : Own H (Sh.dts vs ds :: L) := x.add e
/-- what is no handle, drawn -/
def spBadH (K : PySem.W.Frag) : Sp := fun vs H Q _ => ∃ (a t s : Addr) (ns : List Int) (n : Nat) (m r : Int) (la rn : Bool) (L : List Asn), vs = [.ref a, .ref t, .ref s] ∧ Own H (sq K a (iv ns) :: town t n :: L) ∧ tp s (setV m r la rn) ∈ L ∧
  n ≤ 1000000 ∧ ∀ v d H', isHandle m r d = false → Own H' (dl v d :: sq K a (iv ns) :: town t (n + 1) :: L) → Q v H'
/-! ### handles as numbers -/
theorem dpSet {K : PySem.W.Frag} {H : Hp} {a : Addr} {m r : Int} {la rn : Bool} (h : SqT K H a (setV m r la rn)) : Dp K H (.ref a) (setD m r la rn) := .tup h (.cons (.int _) (.cons (.int _) (.cons (.str _) (.cons (.str _) .nil))))
/-- settings are handed in, or something else -/
def SetsIn (K : PySem.W.Frag) (C : Cl) (H : Hp) (s : V) (E : XK) (R : Int → Int → Prop) : Prop :=
  (∃ (a : Addr) (m r : Int) (la rn : Bool), s = .ref a ∧ SqT K H a (setV m r la rn) ∧ 1 ≤ m ∧ m ≤ 60 ∧ 1 ≤ r ∧ r ≤ 1000 ∧ R m r) ∨ (∃ sd : PyData, Dp K H s sd ∧ areSettings sd = false ∧ E (.ref C.NoSettings) none H)
def spNumberOf (K : PySem.W.Frag) (C : Cl) : Sp := fun vs H Q E => ∃ (s v : V) (d : PyData), vs = [s, v] ∧ Dp K H v d ∧ SetsIn K C H s E fun m r =>
  (asH m r d = none → E (.ref C.NoHandle) none H) ∧ ∀ x c, asH m r d = some (x, c) → Q (.int (c * m + x)) H
def spHandleOf (K : PySem.W.Frag) (C : Cl) : Sp := fun vs H Q E => ∃ (s v : V) (d : PyData), vs = [s, v] ∧ Dp K H v d ∧ SetsIn K C H s E fun m r =>
  (isWhole d 0 (m * r - 1) = false → E (.ref C.NoNumber) none H) ∧ ∀ k, d = .int k → isWhole d 0 (m * r - 1) = true → ∀ p H', H p = none → H' = upd H p (.tup [.int (k % m), .int (k / m)]) → Q (.ref p) H'
section
variable {K : PySem.W.Frag} {H H' : Hp}
theorem SqL.up {a : Addr} {xs : List V} (l : HLe H H') (h : SqL K H a xs) : SqL K H' a xs := by
  rcases h with (s | ⟨o, s⟩) | s
  · exact .inl (.inl (l _ _ s))
  · exact .inl (.inr ⟨o, l _ _ s⟩)
  · exact .inr s
theorem SqT.up {a : Addr} {xs : List V} (l : HLe H H') (h : SqT K H a xs) : SqT K H' a xs := by
  rcases h with (s | ⟨o, s⟩) | s
  · exact .inl (.inl (l _ _ s))
  · exact .inl (.inr ⟨o, l _ _ s⟩)
  · exact .inr s
mutual
theorem Dp.up (l : HLe H H') : ∀ {d : PyData} {v : V}, Dp K H v d → Dp K H' v d
  | .none, _, h => by cases h; exact .non
  | .bool b, _, h => by cases h; exact .bl b
  | .int i, _, h => by cases h; exact .int i
  | .str x, _, h => by cases h; exact .str x
  | .dict _, _, h => by cases h
  | .list ds, _, h => by
    cases h with
    | lst h1 h2 => exact .lst (SqL.up l h1) (DpAll.up l h2)
  | .tuple ds, _, h => by
    cases h with
    | tup h1 h2 => exact .tup (SqT.up l h1) (DpAll.up l h2)
theorem DpAll.up (l : HLe H H') : ∀ {ds : List PyData} {vs : List V}, DpAll K H vs ds → DpAll K H' vs ds
  | [], _, h => by cases h; exact .nil
  | d :: ds, _, h => by
    cases h with
    | cons h1 h2 => exact .cons (Dp.up l h1) (DpAll.up l h2)
end
end
end Sh
namespace L2
open Sh
theorem Dp.more {K : PySem.W.Frag} {H H' : Hp} {p : PySem.Addr} {o : HO} {v : V} {d : PySem.PyData} (h : Dp K H v d) (hn : H p = none) (e : H' = upd H p o) : Dp K H' v d := Sh.Dp.up (e ▸ hle_new hn) h
end L2
namespace Sh
open PySem PySem.Spec L2 PyProof.Rows
/-! ### a def that is called within an except suite, with the exception that is handled there -/
/-- the handled exception stands at a, as oe, of the class at D -/
structure Hx (A : Around) (a : Addr) (oe : Obj) (D : Addr) : Prop where
  hd : A.handled = some (.ref a)
  zc : Zc (.ref D) none oe
  fl : ∃ vs, oe.data = .fields vs
structure FnE (P : Program) (w : World) (K : PySem.W.Frag) (mg : Str → Option Value) (base : Heap) (k : Nat) (f : Addr) (fd : FuncData) (ps : List Str) (sp : Addr → Addr → Sp) : Prop where
  len : ∀ a D vs H Q E, sp a D vs H Q E → vs.length = ps.length
  run : ∀ (A : Around) (outer : List Env) (s : Shared) (H : Hp) (args : Args) (us : List Value) (vs : List V) (Q : VK) (E : XK) (a : Addr) (oe : Obj) (D : Addr),
    L2H.RoomH k A → Hx A a oe D → L2H.PinOk outer H s (a, oe) → Env0 P w K mg base A outer s H → BindsTo s fd args (ps.zip us) → Vals vs us → sp a D vs H Q E →
    codeAny (model P w) A (.call (.ref f) args) (CR (L2N.CX P w) outer P w H s Q E) s
/-- the body of such a def -/
structure Be (X : Cx) (k : Nat) (N : List Str) (sc : Scope) (a : Addr) (oe : Obj) (D : Addr) : Prop where
  nf : Nf X N sc
  hr : L2H.RoomH k X.A
  nd : X.N.Nodup
  pn : (a, oe) ∈ X.pn
  zc : Zc (.ref D) none oe
  fl : ∃ vs, oe.data = .fields vs
theorem Around.deeper_handled (A : Around) (env : Env) : (A.deeper env).handled = A.handled := rfl
theorem fnE_of {P : Program} {w : World} {K : PySem.W.Frag} {mg : Str → Option Value} {base : Heap} {x qual : Str} {st : Stmt} {f : Addr} {fd : FuncData} {N ps : List Str} {k : Nat} {sp : Addr → Addr → Sp}
    (F : Fun K x qual st f fd) (S : FnScope N ps (defScope st)) (len : ∀ a D vs H Q E, sp a D vs H Q E → vs.length = ps.length)
    (body : ∀ (X : Cx), X.prog = P → X.w = w → X.K = K → X.mg = mg → X.base = base → ∀ (a : Addr) (oe : Obj) (D : Addr), Be X k N (defScope st) a oe D → ∀ (vs : List V) (H : Hp) (Q : VK) (E : XK),
      sp a D vs H Q E → Wb X (defBody st) { nx := fun _ H' => Q .non H', rt := Q } (start N vs) H) :
    FnE P w K mg base (k + 1) f fd ps sp := by
  obtain ⟨oc, od, kV, doc, pm, an, cdv, ct, osl, rfl, lk, hcd⟩ := F.ex
  refine ⟨len, fun A outer s H args us vs Q E a oe D hr hx hpin e0 hb r hsp => ?_⟩
  have lenV := len _ _ _ _ _ _ hsp
  have up : ∀ b o, base.get? b = some o → s.heap.get? b = some o := fun b o q => (e0.bs b o q).1
  have inK : K.In s.heap := e0.mod.kin.keeps up
  have nl : s.heap.NoLimit := e0.mod.nolimit.keeps up
  have kinds : ∀ y ∈ ps.zip us, (defScope st).names.lookup y.1 = some .local ∨ ((defScope st).names.lookup y.1 = some .cell ∧ ((cellsFrom (s.heap.objs.size + 1) (defScope st).names []).lookup y.1).isSome = true) := by
    rintro ⟨n, v⟩ hy
    rcases S.par n (List.of_mem_zip hy).1 with q | q
    · exact .inl q
    · exact .inr ⟨q, PySem.W.cellsFrom_some _ _ _ (.inl q)⟩
  refine codeAny_call_function hr.depth (inK _ _ lk) rfl S.co S.gen rfl (PySem.W.codeRec_of inK hcd) (hb _ _ _ _ ?_)
  refine wpAny_newFunctionEnv_cells S.kind kinds fun env he s1 c => ?_
  subst he
  refine ⟨nl.keeps c.toInCall.keep, codeAny_func ?_⟩
  have J := L2H.inv_startH (CX := L2N.CX P w) (E := E) (qual := qual) (f := f) (cd := cdv) (A := A) S hpin e0 lenV r c
  have W := body (L2H.cxH (L2N.CX P w) P w K mg base N qual (defScope st) f cdv A outer s H E (a, oe)) rfl rfl rfl rfl rfl a oe D
    ⟨⟨rfl, rfl, fun _ => rfl⟩, hr.deeper _, S.nd, List.mem_singleton.mpr rfl, hx.zc, hx.fl⟩ vs H Q E hsp
  refine wpAny_mono (W.run [] s1 J) (fun fl s' hs => ?_) fun _ _ z => z
  have done : ∀ {σ' : St} {H' : Hp} {v : V} {u : Value}, Inv (L2H.cxH (L2N.CX P w) P w K mg base N qual (defScope st) f cdv A outer s H E (a, oe)) [] σ' H' s' →
      RelV v u → Q v H' → CE outer P w H s Q u s' :=
    fun {σ' H' v u} J' rv q => ⟨v, H', J'.os, J'.bare, J'.base, J'.hok, rv, q⟩
  cases fl with
  | ret u =>
    obtain ⟨v, σ', H', J', rv, q⟩ := hs
    exact done J' rv q
  | next =>
    obtain ⟨σ', H', J', q⟩ := hs
    exact done (v := V.non) (u := Value.none) J' rfl q
  | brk =>
    obtain ⟨_, _, _, no⟩ := hs
    exact no.elim
  | cont =>
    obtain ⟨_, _, _, no⟩ := hs
    exact no.elim
structure En (P : Program) (w : World) (K : PySem.W.Frag) (mg : Str → Option Value) (base : Heap) (k : Nat) (x : Str) (ps : List Str) (sp : Addr → Addr → Sp) : Prop where
  ex : ∃ (f : Addr) (fd : FuncData), FnE P w K mg base k f fd ps sp ∧ mg x = some (.ref f) ∧ PySem.W.keepIn K (.ref f) = true ∧ Binds K fd ps []
section
variable {X : Cx} {a b c e o : Expr} {es rest : List Expr} {σ : St} {H : Hp} {Q : VK} {QB : Bool → Hp → Prop} {QA : List V → Hp → Prop} {D : Ends} {pos p1 p2 apos : Pos} {v x y : V} {n : Nat} {xs : List V}
  {k l : Nat} {ps : List Str} {z m : Str} {C : Addr}
theorem we_callE {ad : Addr} {oe : Obj} {De : Addr} {sp : Addr → Addr → Sp} (hr : L2H.RoomH l X.A) (hx : Hx X.A ad oe De) (hp : (ad, oe) ∈ X.pn) (gl : Gd X.env z) (G : En X.prog X.w X.K X.mg X.base k z ps sp) (hk : k ≤ l)
    (q : Wa X (e :: es) σ H fun vs H1 => sp ad De vs H1 Q fun _ _ _ => False)
    (he : starEach (e :: es) X.env = (false, eval e X.env) :: starEach es X.env := by rfl)
    (hpl : (backTo pos (starEach es X.env)).any (·.1) = false := by rfl) : We X (.Call (.Name z p1) (e :: es) [] pos) σ H Q := by
  obtain ⟨f, fd, F, hm, kp, hb⟩ := G.ex
  refine ⟨fun pins s I => wpAny_Call_Name_kw (ld_glob I gl.gl hm (PySem.W.callWith_K (h₀ := X.base) I.ok.mod.kin kp ?_ he hpl) gl.hd)⟩
  refine thn (q.run pos pins s I) fun us s1 hu => ?_
  obtain ⟨vs, H1, I1, r, q1⟩ := hu
  refine ⟨I1.kIn, ?_⟩
  have lenU : us.length = ps.length := by rw [← r.length]; exact F.len _ _ _ _ _ _ q1
  have bd := hb s1 us I1.kIn (by rw [List.append_nil]; exact lenU)
  rw [List.append_nil] at bd
  obtain ⟨g1, g2, g3, g4, g5⟩ := I1.pin (ad, oe) (List.mem_append_left _ hp)
  have pin : L2H.PinOk X.stack H1 s1 (ad, oe) := ⟨g1, g2, fun hm => (List.mem_cons.mp (I1.stkSub _ hm)).elim g3 g4, g5⟩
  have run := F.run X.A X.stack s1 H1 ⟨us, []⟩ us vs Q (fun _ _ _ => False) ad oe De (hr.mono hk) hx pin I1.env0 bd r q1
  refine wpAny_call (codeAny_mono run fun res s' g => ?_)
  cases res with
  | error er =>
    obtain ⟨_, _, _, _, _, _, _, _, _, _, _, _, no⟩ := g
    exact no.elim
  | ok fl =>
    cases fl with
    | ret u => exact I1.after g
    | next => exact False.elim g
    | brk => exact False.elim g
    | cont => exact False.elim g
/-- isinstance of the handled exception -/
theorem wc_isE {ad De : Addr} {oe : Obj} {c : V} {cv : Value} {bb : Bool} (hp : (ad, oe) ∈ X.pn) (Ce : ExcC X.K De) (hz : Zc (.ref De) none oe) (hf : ∃ vs, oe.data = .fields vs) (hc : ∀ u, RelV c u → u = cv)
    (hk : PySem.W.kitOne X.K (.ref De) cv = some bb) (q : Q (.bl bb) H) : Wcall X (.builtin "isinstance") [.ref ad, c] H Q := by
  refine ⟨fun pins s σ us I r => ?_⟩
  cases r with
  | cons r0 r =>
  cases r0
  cases r with
  | cons r1 r =>
  cases r
  cases hc _ r1
  have got := (I.pin (ad, oe) (List.mem_append_left _ hp)).1
  obtain ⟨vs, dv⟩ := hf
  have J : PySem.W.InstAt s.heap ad oe De none := by
    rcases oe with ⟨oc, od, oda, osl⟩
    obtain ⟨z1, z2⟩ := hz
    dsimp only at z1 z2 dv
    subst z1 z2 dv
    exact ⟨got, rfl, rfl, trivial⟩
  refine PySem.W.kia_one (PySem.W.handS_kitx_exc Ce.hg Ce.hk Ce.hs Ce.hd Ce.ha Ce.hn Ce.ht Ce.hm) I.kIn J hk (fun z => nomatch z) fun tk => ?_
  exact ⟨.bl bb, H, I.kept (t' := tk) fun _ _ z => z, rfl, q⟩
/-- try: body except c as n: suite -/
theorem ws_try {body suite : List Stmt} {b₀ : Stmt} {i : Nat} {cv : Value} {Wout : WX} {n : Str} {np pos' : Pos} (hs : X.stack = X.env :: X.outer) (hf : X.env.frame = some X.env.locals) (hN : X.N.Nodup) (nl : X.N[i]? = some n) (hln : X.env.kindOf n = some .local)
    (hc : Names X z cv) (tk : L2N.Takes X Wout)
    (q : ∀ (pn : List (Addr × Obj)) (xe : Value → Shared → Prop),
      L2N.Takes (X.tr pn xe) (wAs X.K cv i (fun a cls d D σ H => ∀ (oe : Obj) (pn' : List (Addr × Obj)), L2N.Zn cls d oe → (∃ vs, oe.data = .fields vs) → Wb (X.suite a ((a, oe) :: pn')) (b₀ :: suite) D σ H) Wout D) →
      PassesOwn (model X.prog X.w) X.A X.env xe → Wb (X.tr pn xe) body D σ H) :
    Ws X (.Try body [.ExceptHandler (some (.Name z np)) (some n) (b₀ :: suite) pos'] [] [] pos) D σ H :=
  of_ps (L2N.ps_try_as (tb := fun W D σ H => ∀ (pn : List (Addr × Obj)) (xe : Value → Shared → Prop), L2N.Takes (X.tr pn xe) W → PassesOwn (model X.prog X.w) X.A X.env xe → Wb (X.tr pn xe) body D σ H)
    (ts := fun a cls d D σ H => ∀ (oe : Obj) (pn' : List (Addr × Obj)), L2N.Zn cls d oe → (∃ vs, oe.data = .fields vs) → Wb (X.suite a ((a, oe) :: pn')) (b₀ :: suite) D σ H)
    hs hf hN nl hln hc tk (fun W pn xe t p => ⟨fun pins s σ H D I h => (h pn xe t p).run pins s I⟩)
    fun a oe cls d pn z f => ⟨fun pins s σ H D I h => (h oe pn z f).run pins s I⟩) q
/-- xs.count(y), flat items -/
theorem wm_count {ys : List V} {l : Addr} {r : V} (hs : SqL X.K H l ys) (fy : flatV y = true) (fys : ys.all flatV = true) (q : Q (.int (ys.countP fun z => eqV z y : Nat)) H) :
    ∀ (pins : List (Addr × Obj)) (s : Shared) (σ : St) (v : Value) (us : List Value), Inv X pins σ H s → RelV (.ref l) v → Vals [y] us → wpAny (model X.prog X.w) X.A (call (.builtin "list.count") (v :: us)) (EP X pins σ Q) X.xe s := by
  intro pins s σ v us I rv rus
  cases (show v = Value.ref l from rv)
  obtain ⟨u, rfl, ru⟩ := rus.one
  obtain ⟨its, vals, ⟨ob, k, ho, hc, hd, hdat⟩, hlen⟩ := I.list hs
  rcases ob with ⟨oc, od, oda, osl⟩
  dsimp only at hc hd hdat
  subst hc hd hdat
  have eqs : ∀ u' ∈ its, SeqAt.EqAt X.A.in1 s u' u (eqU y u') := fun u' h' => mem_eqAt ru fy vals fys u' h'
  refine call_meets PySem.F.slot_list_count ⟨_, ho, rfl⟩ PySem.F.entry_list_count (PySem.F.args_list_count_2 _ _) (SeqAt.list_countAt l its.toArray k none osl u (eqU y)) ⟨ho, fun u' h' => eqs u' (by simpa using h'), ?_⟩
  refine ⟨.int (ys.countP fun z => eqV z y : Nat), H, I.tok _, ⟨s.toks, ?_⟩, q⟩
  have cnt : ∀ {ys : List V} {its : List Value}, Vals ys its → ys.all flatV = true → its.countP (eqU y) = ys.countP fun z => eqV z y := by
    intro ys its vals
    induction vals with
    | nil => intro _; rfl
    | cons r0 _ ih =>
      intro f
      rw [List.all_cons, Bool.and_eq_true] at f
      rw [List.countP_cons, List.countP_cons, ih f.2, eqU_of r0 f.1]
  show Value.int ((its.toArray.toList.countP (eqU y) : Nat) : Int) s.toks = _
  rw [show its.toArray.toList = its from rfl, cnt vals fys]
end
theorem en_of {P : Program} {w : World} {K : PySem.W.Frag} {mg : Str → Option Value} {base : Heap} {x : Str} {st : Stmt} {N ps : List Str} {k : Nat} {sp : Addr → Addr → Sp} (A : DefAt K mg x st ps) (S : FnScope N ps (defScope st))
    (len : ∀ a D vs H Q E, sp a D vs H Q E → vs.length = ps.length)
    (body : ∀ (X : Cx), X.prog = P → X.w = w → X.K = K → X.mg = mg → X.base = base → ∀ (a : Addr) (oe : Obj) (D : Addr), Be X k N (defScope st) a oe D → ∀ (vs : List V) (H : Hp) (Q : VK) (E : XK),
      sp a D vs H Q E → Wb X (defBody st) { nx := fun _ H' => Q .non H', rt := Q } (start N vs) H) : En P w K mg base (k + 1) x ps sp := by
  obtain ⟨f, fd, F, hm, kp, hb⟩ := A
  exact ⟨f, fd, fnE_of F S len body, hm, kp, hb⟩
/-! which refusal -/
def spWhich (C : Cl) : Addr → Addr → Sp := fun a D vs H Q _ => ∃ (e : Er) (L : List Asn), vs = [.ref a] ∧ D = C.of e ∧ Own H L ∧ ∀ t H', Own H' (tp t [.str "refused", .int (erI e)] :: L) → Q (.ref t) H'
theorem we_extend {X : Cx} {o e : Expr} {σ : St} {H : Hp} {Q : VK} {pos apos : Pos} (q : We X o σ H fun x H1 => ∃ l, x = .ref l ∧ (∃ xs, SqL X.K H1 l xs) ∧ We X e σ H1 fun y H2 => ∃ b xs ys, y = .ref b ∧ H2 l = some (.lst xs) ∧ H2 b = some (.lst ys) ∧ xs.length + ys.length ≤ sizeLine ∧
      ∀ H3, H3 = upd H2 l (.lst (xs ++ ys)) → Q .non H3)
    (hbase : attributeBase o "extend" X.env (eval o X.env) = eval o X.env := by rfl)
    (hfew : ((backTo pos (starEach [e] X.env)).all (fun w => !w.1) && (backToKw pos (keywordEach [] X.env)).all (fun w => w.1.isSome)
      && decide (([e] : List Expr).length + ([] : List Keyword).length + (if ([] : List Keyword).isEmpty then 0 else 1) < 30)) = true := by rfl)
    (hline : (apos.endLine == pos.line) = true := by rfl) (hs : starEach [e] X.env = (false, eval e X.env) :: starEach [] X.env := by rfl) : We X (.Call (.Attribute o "extend" apos) [e] [] pos) σ H Q :=
  we_bm PySem.F.plainAttrs_list PySem.F.slot_list_extend PySem.F.type_list_extend mt_extend (we_imp q fun x H1 ⟨l, ex, hx, q1⟩ => ex ▸ ⟨.inl ⟨rfl, hx⟩,
    wa_cons (we_imp q1 fun y H2 ⟨b, xs, ys, ey, h1, h2, h3, h4⟩ => wa_nil (ey ▸ ⟨l, b, xs, ys, rfl, rfl, h1, h2, h3, h4 _ rfl⟩)) hs⟩) hbase hfew hline hs rfl
theorem we_count {X : Cx} {o e : Expr} {σ : St} {H : Hp} {Q : VK} {pos apos : Pos} (q : We X o σ H fun x H1 => ∃ l, x = .ref l ∧ (∃ xs, SqL X.K H1 l xs) ∧ We X e σ H1 fun y H2 => ∃ xs, SqL X.K H2 l xs ∧ flatV y = true ∧ xs.all flatV = true ∧ Q (.int (xs.countP fun z => eqV z y : Nat)) H2)
    (hbase : attributeBase o "count" X.env (eval o X.env) = eval o X.env := by rfl)
    (hfew : ((backTo pos (starEach [e] X.env)).all (fun w => !w.1) && (backToKw pos (keywordEach [] X.env)).all (fun w => w.1.isSome)
      && decide (([e] : List Expr).length + ([] : List Keyword).length + (if ([] : List Keyword).isEmpty then 0 else 1) < 30)) = true := by rfl)
    (hline : (apos.endLine == pos.line) = true := by rfl) (hs : starEach [e] X.env = (false, eval e X.env) :: starEach [] X.env := by rfl) : We X (.Call (.Attribute o "count" apos) [e] [] pos) σ H Q :=
  we_bm (r := fun x ws H Q => ∃ l y xs, x = .ref l ∧ ws = [y] ∧ SqL X.K H l xs ∧ flatV y = true ∧ xs.all flatV = true ∧ Q (.int (xs.countP fun z => eqV z y : Nat)) H) PySem.F.plainAttrs_list PySem.F.slot_list_count PySem.F.type_list_count
    (fun pins s σ H x xs v us Q I rx rs h => by
      obtain ⟨l, y, ys, rfl, rfl, h1, h2, h3, h4⟩ := h
      exact wm_count (r := .non) h1 h2 h3 h4 pins s σ v us I rx rs)
    (we_imp q fun x H1 ⟨l, ex, hx, q1⟩ => ex ▸ ⟨.inl ⟨rfl, hx⟩, wa_cons (we_imp q1 fun y H2 ⟨ys, h1, h2, h3, h4⟩ => wa_nil ⟨l, y, ys, rfl, rfl, h1, h2, h3, h4⟩) hs⟩) hbase hfew hline hs rfl
theorem we_index {X : Cx} {o e : Expr} {σ : St} {H : Hp} {Q : VK} {pos apos : Pos} (q : We X o σ H fun x H1 => ∃ l, x = .ref l ∧ (∃ xs, SqL X.K H1 l xs) ∧ We X e σ H1 fun y H2 => ∃ xs j z, SqL X.K H2 l xs ∧ flatV y = true ∧ xs.all flatV = true ∧ xs[j]? = some z ∧ eqV z y = true ∧
      (∀ m z', m < j → xs[m]? = some z' → eqV z' y = false) ∧ Q (.int (j : Nat)) H2)
    (hbase : attributeBase o "index" X.env (eval o X.env) = eval o X.env := by rfl)
    (hfew : ((backTo pos (starEach [e] X.env)).all (fun w => !w.1) && (backToKw pos (keywordEach [] X.env)).all (fun w => w.1.isSome)
      && decide (([e] : List Expr).length + ([] : List Keyword).length + (if ([] : List Keyword).isEmpty then 0 else 1) < 30)) = true := by rfl)
    (hline : (apos.endLine == pos.line) = true := by rfl) (hs : starEach [e] X.env = (false, eval e X.env) :: starEach [] X.env := by rfl) : We X (.Call (.Attribute o "index" apos) [e] [] pos) σ H Q :=
  we_bm PySem.F.plainAttrs_list PySem.F.slot_list_index PySem.F.type_list_index mt_index
    (we_imp q fun x H1 ⟨l, ex, hx, q1⟩ => ex ▸ ⟨.inl ⟨rfl, hx⟩, wa_cons (we_imp q1 fun y H2 ⟨ys, j, z, h1, h2, h3, h4, h5, h6, h7⟩ => wa_nil ⟨l, ys, y, j, z, rfl, rfl, h1, h2, h3, h4, h5, h6, h7⟩) hs⟩) hbase hfew hline hs rfl
def whichL (e : Er) : List V := [.bl (decide (e = .NoSettings)), .bl (decide (e = .NoWorth)), .bl (decide (e = .NoHandle)), .bl (decide (e = .Stale)), .bl (decide (e = .Full)), .bl (decide (e = .NoPlace)), .bl (decide (e = .NoList)),
  .bl (decide (e = .NoNumber)), .bl (decide (e = .NotEmpty)), .bl (decide (e = .NoDeed))]
theorem which_all (e : Er) : ((whichL e).take (erI e).toNat).all (fun z => !eqV z (.bl true)) = true := by cases e <;> decide
theorem which_min (e : Er) {m : Nat} {z : V} (hm : m < (erI e).toNat) (h : (whichL e)[m]? = some z) : eqV z (.bl true) = false := by
  have k := List.all_eq_true.mp (which_all e) z (by
    refine List.mem_of_getElem? (i := m) ?_
    rw [List.getElem?_take_of_lt hm]
    exact h)
  simpa using k
/-- a call of what an expression tells -/
theorem we_callX {X : Cx} {fe e : Expr} {es : List Expr} {σ : St} {H : Hp} {Q : VK} {W : WX} {l : Nat} {pos : Pos} (tk : L2N.Takes X W) (hr : Room l X.A)
    (q : We X fe σ H fun x H1 => ∃ (f : Addr) (fd : FuncData) (k : Nat) (ps : List Str) (sp : Sp), x = .ref f ∧ FnOk X.prog X.w X.K X.mg X.base (CN X) k f fd ps sp ∧ k ≤ l ∧ PySem.W.keepIn X.K (.ref f) = true ∧ Binds X.K fd ps [] ∧
      Wa X (e :: es) σ H1 fun vs H2 => sp vs H2 Q fun cls d H3 => W cls d σ H3)
    (he : starEach (e :: es) X.env = (false, eval e X.env) :: starEach es X.env := by rfl) (hp : (backTo pos (starEach es X.env)).any (·.1) = false := by rfl)
    (hc : eval (.Call fe (e :: es) [] pos) X.env = (do callWith pos (← eval fe X.env) [] (backTo pos (starEach (e :: es) X.env)) (backToKw pos (keywordEach [] X.env))) := by rfl) :
    We X (.Call fe (e :: es) [] pos) σ H Q := by
  refine ⟨fun pins s I => PyProof.Rows.Call_ (thn (q.run pins s I) fun u s1 hu => ?_) hc⟩
  obtain ⟨x, H1, I1, rx, f, fd, k, ps, sp, ex, F, hk, kp, hb, q1⟩ := hu
  subst ex
  cases (show u = Value.ref f from rx)
  refine PySem.W.callWith_K (h₀ := X.base) I.ok.mod.kin kp ?_ he hp
  refine thn (q1.run pos pins s1 I1) fun us s2 hs => ?_
  obtain ⟨vs, H2, I2, r, q2⟩ := hs
  exact ⟨I2.kIn, meth_at tk (hr.mono hk) F hb I2 r q2⟩
/-! ### the law itself -/
def spLaw (K : PySem.W.Frag) : Sp := fun vs H Q _ => ∃ (a : Addr) (ns : List Int), vs = [.ref a] ∧ SqL K H a (iv ns) ∧ ns.length ≤ 63 ∧ ∀ H', Q (.bl true) H'
theorem walkL {l : PySem.W.OpenLaw} {k : Nat} {q : Program} {loose : List Str} {XP : (Str → Option Value) → Heap → Prop} {YP : World → Heap → Prop} {d : DefRec} {K : Params → PySem.W.Frag} (hr : Room k callerA) (hn : l.most = some 63) (hdf : d.params.defaults = [])
    (hY : ∀ (w : World) (h : Heap), YP w h → (K w.params).In h)
    (F : ∀ (w : World) (mg : Str → Option Value) (fa : Addr) (h : Heap), (K w.params).In h → h.Ns mainGlobals mg → mg d.name = some (.ref fa) →
      ∃ fd : FuncData, (∀ (s : Shared) (u : Value), BindsTo s fd ⟨[u], []⟩ [("script", u)]) ∧ ∀ base : Heap, (K w.params).In base → base.Ns mainGlobals mg → FnOk l.prog w (K w.params) mg base (L2N.CX l.prog w) k fa fd ["script"] (spLaw (K w.params))) :
    PySem.W.WalkO q loose XP YP l.row.toRowW d [] (fun f vs => PySem.call f vs) :=
  L2.walk_of (n := 63) (k := k) (x := "script") (CX := fun w => L2N.CX l.prog w) (sp := fun w => spLaw (K w.params)) hn (by decide) hdf hr hY F
    (fun _ _ a ns hl _ hS => ⟨a, ns, rfl, hS, hl, fun _ => rfl⟩) fun _ _ _ _ _ z => by
      obtain ⟨_, _, _, _, _, _, _, _, _, _, _, _, no⟩ := z
      exact no
section
variable {K : PySem.W.Frag} {D C : Addr}
theorem kit_self : PySem.W.kitOne K (.ref D) (.ref D) = some true := by
  unfold PySem.W.kitOne
  rw [if_pos (beq_self_eq_true _)]
theorem kit_ref (hd : PySem.W.hasDictIn K C = true) (ht : PySem.W.typeIn K (.ref C) = some (.type "type")) (h1 : PySem.W.subIn K (.ref D) (.ref D) = some true) (h2 : PySem.W.subIn K (.ref D) (.ref C) = some false) :
    PySem.W.kitOne K (.ref D) (.ref C) = some false := by
  have ne : ¬ (Value.ref D == Value.ref C) = true := fun e => by
    have q : D = C := Value.ref.inj (beq_iff_eq.mp e)
    subst q
    rw [h1] at h2
    cases h2
  obtain ⟨cd, hc, _⟩ := PySem.W.any_some hd
  unfold PySem.W.kitOne
  rw [if_neg ne]
  show (if ((PySem.W.clsIn K C).isSome && PySem.W.typeIn K (.ref C) == some (.type "type")) = true then PySem.W.subIn K (.ref D) (.ref C) else none) = some false
  rw [hc, ht, if_pos (by rfl)]
  exact h2
theorem kit_val (h : PySem.W.subIn K (.ref D) (.type "ValueError") = some true) : PySem.W.kitOne K (.ref D) (.type "ValueError") = some true := by
  unfold PySem.W.kitOne
  rw [if_neg (by intro e; cases (beq_iff_eq.mp e))]
  show (if PySem.W.kitMeta "ValueError" = true then PySem.W.subIn K (.ref D) (.type "ValueError") else none) = some true
  rw [if_pos (by decide +kernel)]
  exact h
end
end Sh
namespace Sh
open PySem PySem.Spec L2 PyProof.Rows
section
variable {X : Cx} {a b c e o iter elt : Expr} {σ : St} {H : Hp} {Q : VK} {D : Ends} {pos p1 p2 p3 spos : Pos} {v x y : V} {n k : Nat} {z zy : Str} {body : List Stmt} {scope : Scope} {i : Nat}
/-- a name's target -/
theorem pg_nl (nl : Nl X.N X.env X.fn i z) (nd : X.N.Nodup) : PG X (.Name z p1) (gName i) := pg_name nd nl.at' nl.loc nl.fn
/-- for z in a list -/
theorem ws_forL (po : PassesOwn (model X.prog X.w) X.A X.env X.xe) (hc : X.calm = true) (nd : X.N.Nodup) (nl : Nl X.N X.env X.fn i z)
    (q : We X iter σ H fun x H1 => ∃ (l : Addr) (xs : List V), x = .ref l ∧ SqL X.K H1 l xs ∧ ∃ Pv : Nat → St → Hp → Prop, Pv 0 σ H1 ∧ (∀ j σ H, j ≤ xs.length → Pv j σ H → SqL X.K H l xs) ∧
      (∀ j y σ H, xs[j]? = some y → Pv j σ H → Wb X body { D with nx := Pv (j + 1), ct := Pv (j + 1), bk := D.nx } (σ.set i (some y)) H) ∧ ∀ σ H, Pv xs.length σ H → D.nx σ H)
    (hs : ∀ x, foldedSetIterable iter X.env x = pure x := by intro _; rfl) : Ws X (.For (.Name z p1) iter body [] pos) D σ H := by
  refine of_ps (ps_for po hc (pi_list We.pe) (pg_nl nl nd) Wb.pss hs) (we_imp q fun x H1 h => ?_)
  obtain ⟨l, xs, ex, hl, Pv, h0, h1, h2, h3⟩ := h
  exact ⟨l, ex, ⟨xs, hl⟩, for_list Pv h0 h1 (fun j y σ H e p => h2 j y σ H e p) h3⟩
/-- for z in range(e) -/
theorem ws_forR (po : PassesOwn (model X.prog X.w) X.A X.env X.xe) (hc : X.calm = true) (nd : X.N.Nodup) (nl : Nl X.N X.env X.fn i z) (g : Bn X.env X.mg "range" (.type "range"))
    (q : We X e σ H fun x H1 => ∃ m : Int, x = .int m ∧ -(2 ^ 62) ≤ m ∧ m < 2 ^ 62 ∧ ∃ Pv : Nat → St → Hp → Prop, Pv 0 σ H1 ∧
      (∀ (j : Nat) σ H, j < m.toNat → Pv j σ H → Wb X body { D with nx := Pv (j + 1), ct := Pv (j + 1), bk := D.nx } (σ.set i (some (.int (j : Int)))) H) ∧ ∀ σ H, Pv m.toNat σ H → D.nx σ H)
    (h1 : starEach [e] X.env = [(false, eval e X.env)] := by rfl)
    (hs : ∀ x, foldedSetIterable (.Call (.Name "range" p2) [e] [] p3) X.env x = pure x := by intro _; rfl) : Ws X (.For (.Name z p1) (.Call (.Name "range" p2) [e] [] p3) body [] pos) D σ H := by
  refine of_ps (ps_for po hc (pi_range1 g.gl g.mg (pa_cons We.pe pa_nil h1) h1) (pg_nl nl nd) Wb.pss hs) (we_imp q fun x H1 h => ?_)
  obtain ⟨m, rfl, b1, b2, Pv, h0, h2, h3⟩ := h
  refine ⟨m, rfl, b1, b2, for_range Pv h0 (fun j σ H hj p => ?_) h3⟩
  rw [Int.zero_add]
  exact h2 j σ H hj p
/-! ### comprehensions -/
theorem lookup_map {β : Type} (f : Str → β → β) (x : Str) : ∀ l : List (Str × β), (l.map fun p => (p.1, f p.1 p.2)).lookup x = (l.lookup x).map (f x)
  | [] => rfl
  | (n, k) :: r => by
    rw [List.map_cons, List.lookup_cons, List.lookup_cons]
    cases e : (x == n) with
    | true =>
      have : x = n := beq_iff_eq.mp e
      subst this
      rfl
    | false => exact lookup_map f x r
theorem lookup_rl {scope : Scope} {env : Env} (x : Str) : (relabel scope env).names.lookup x = (scope.names.lookup x).map fun k => if (k == NameKind.free && env.scope.kind == .function && env.kindOf x == some .cell) = true then NameKind.cell else k := by
  have e : (relabel scope env).names = scope.names.map fun p => (p.1, (fun (n : Str) (k : NameKind) => if (k == NameKind.free && env.scope.kind == .function && env.kindOf n == some .cell) = true then NameKind.cell else k) p.1 p.2) := by
    show List.map _ _ = List.map _ _
    refine List.map_congr_left fun p _ => ?_
    obtain ⟨n, k⟩ := p
    dsimp only
    split
    · rfl
    · rfl
  rw [e]
  exact lookup_map (fun (n : Str) (k : NameKind) => if (k == NameKind.free && env.scope.kind == .function && env.kindOf n == some .cell) = true then NameKind.cell else k) x _
theorem rl_local {scope : Scope} {env : Env} {x : Str} (h : scope.names.lookup x = some .local) : (relabel scope env).names.lookup x = some .local := by rw [lookup_rl, h]; rfl
theorem rl_global {scope : Scope} {env : Env} {x : Str} (h : scope.names.lookup x = some .globalImplicit) : (relabel scope env).names.lookup x = some .globalImplicit := by rw [lookup_rl, h]; rfl
theorem rl_free {scope : Scope} {env : Env} {x : Str} (h : scope.names.lookup x = some .free) : (relabel scope env).names.lookup x = some .cell ∨ (relabel scope env).names.lookup x = some .free := by
  rw [lookup_rl, h, Option.map_some]
  split
  · exact .inl rfl
  · exact .inr rfl
theorem nmF {N : List Str} {env : Env} {cl : List (Str × Addr)} {C : Addr} (m : Nm N env i z) (h : scope.names.lookup z = some .free) : Nm N (compEnvC scope cl C env) i z := ⟨m.at', .inr (rl_free h), m.hd, m.hc⟩
theorem nmO {N : List Str} {env : Env} {cl : List (Str × Addr)} {C : Addr} (m : Nm N env i z) (h : scope.names.lookup z = some .local) : Nm N (compEnvC scope cl C env) i z := ⟨m.at', .inl (rl_local h), m.hd, m.hc⟩
theorem gdC {env : Env} {cl : List (Str × Addr)} {C : Addr} (m : Gd env z) (h : scope.names.lookup z = some .globalImplicit) : Gd (compEnvC scope cl C env) z := ⟨rl_global h, m.hd⟩
theorem bnC {env : Env} {mg : Str → Option Value} {u : Value} {cl : List (Str × Addr)} {C : Addr} (m : Bn env mg z u) (h : scope.names.lookup z = some .globalImplicit) : Bn (compEnvC scope cl C env) mg z u := ⟨rl_global h, m.hd, m.mg, m.bt, m.nn⟩
/-- a name that only a comprehension has -/
structure No (N : List Str) (i : Nat) (z : Str) : Prop where
  at' : N[i]? = some z
  hd : (z == ("__debug__" : Str)) = false
  hc : (z == ("__classdict__" : Str)) = false
theorem nmN {N : List Str} {env : Env} {cl : List (Str × Addr)} {C : Addr} (m : No N i z) (h : scope.names.lookup z = some .local) : Nm N (compEnvC scope cl C env) i z := ⟨m.at', .inl (rl_local h), m.hd, m.hc⟩
theorem Nm.no {N : List Str} {env : Env} (m : Nm N env i z) : No N i z := ⟨m.at', m.hd, m.hc⟩
/-- a global that only a comprehension has -/
structure Gc (z : Str) : Prop where
  hd : (z == ("__debug__" : Str)) = false
structure Bc (mg : Str → Option Value) (z : Str) (u : Value) : Prop where
  hd : (z == ("__debug__" : Str)) = false
  mg : mg z = none
  bt : bootBuiltins z = some u
  nn : z ≠ "__name__"
theorem gdN {env : Env} {cl : List (Str × Addr)} {C : Addr} (m : Gc z) (h : scope.names.lookup z = some .globalImplicit) : Gd (compEnvC scope cl C env) z := ⟨rl_global h, m.hd⟩
theorem bnN {env : Env} {mg : Str → Option Value} {u : Value} {cl : List (Str × Addr)} {C : Addr} (m : Bc mg z u) (h : scope.names.lookup z = some .globalImplicit) : Bn (compEnvC scope cl C env) mg z u := ⟨rl_global h, m.hd, m.mg, m.bt, m.nn⟩
theorem Nf.blk {N : List Str} {sc : Scope} {own : List (Str × Nat)} (B : Nf X N sc) (h : blkC N sc scope own = true) : BlkOk X.N X.env.scope scope own := by
  rw [B.hN, B.hs]
  exact blkOk_by h
theorem Nf.no {N : List Str} {sc : Scope} (B : Nf X N sc) (h : N[i]? = some z) (hd : (z == ("__debug__" : Str)) = false) (hc : (z == ("__classdict__" : Str)) = false) : No X.N i z := ⟨by rw [B.hN]; exact h, hd, hc⟩
/-- the context of a comprehension's block -/
abbrev blk (X : Cx) (scope : Scope) (s : Shared) (H : Hp) (C : Addr) (cl : List (Str × Addr)) (fp : List Addr) : Cx := X.blk s H scope (compEnvC scope cl C X.env) fp
theorem takesB (s : Shared) (Hs : Hp) (C : Addr) (cl : List (Str × Addr)) (fp : List Addr) : L2N.Takes (blk X scope s Hs C cl fp) (fun _ _ _ _ => False) := fun _ _ x => by
  obtain ⟨_, _, _, _, _, _, _, _, _, _, _, _, _, _, _, _, no⟩ := x
  exact no.elim
def teB (X : Cx) (scope : Scope) (elt : Expr) : TE := fun σ H Q => ∀ (s : Shared) (Hs : Hp) (C : Addr) (cl : List (Str × Addr)) (fp : List Addr), We (blk X scope s Hs C cl fp) elt σ H Q
theorem lcT {scope : Scope} (nd : X.N.Nodup) (no : X.N[i]? = some z) (hz : scope.names.lookup z = some .local) (s : Shared) (Hs : Hp) (C : Addr) (cl : List (Str × Addr)) (fp : List Addr) : PG (blk X scope s Hs C cl fp) (.Name z p1) (gName i) :=
  pg_name nd no (.inl (rl_local hz)) (.inr (rl_local hz))
theorem lcE (s : Shared) (Hs : Hp) (C : Addr) (cl : List (Str × Addr)) (fp : List Addr) : PE (blk X scope s Hs C cl fp) elt (teB X scope elt) := ⟨fun pins t σ H Q I h => (h s Hs C cl fp).run pins t I⟩
theorem wipe1 (σ : St) (i : Nat) (v : Option V) : wipe ((wipe σ [i]).set i v) [i] = wipe σ [i] := by
  show ((σ.set i none).set i v).set i none = σ.set i none
  rw [List.set_set, List.set_set]
/-- [elt for z in a list], as it is read -/
def LcL (X : Cx) (scope : Scope) (i : Nat) (elt iter : Expr) (σ : St) (H : Hp) (Q : VK) : Prop :=
  We X iter σ H fun x H1 => ∃ (l : Addr) (xs : List V), x = .ref l ∧ SqL X.K H1 l xs ∧ ∀ dl H2, H1 dl = none → H2 = upd H1 dl (.lst []) → ∃ Pv : Nat → Hp → Prop, Pv 0 H2 ∧ (∀ j H, j ≤ xs.length → Pv j H → SqL X.K H l xs) ∧
    (∀ j y H, xs[j]? = some y → Pv j H → ∀ (s : Shared) (Hs : Hp) (C : Addr) (cl : List (Str × Addr)) (fp : List Addr), We (blk X scope s Hs C cl fp) elt ((σ.set i none).set i (some y)) H fun v H4 =>
      ∃ acc, H4 dl = some (.lst acc) ∧ acc.length < sizeLine ∧ ∀ H5, H5 = upd H4 dl (.lst (acc ++ [v])) → Pv (j + 1) H5) ∧ ∀ H, Pv xs.length H → Q (.ref dl) H
theorem LcL.t (q : LcL X scope i elt iter σ H Q) : tLc (iList X.K (We X iter)) (gName i) (fun _ H Q => Q true H) (teB X scope elt) [i] σ H Q := by
  refine we_imp q fun x H1 h => ?_
  obtain ⟨l, xs, ex, hl, h⟩ := h
  refine ⟨l, ex, ⟨xs, hl⟩, fun dl hn => ?_⟩
  obtain ⟨Pv, h0, h1, h2, h3⟩ := h dl _ hn rfl
  refine lc_list (te := teB X scope elt) (tt := fun _ H Q => Q true H) (g := gName i) Pv h0 h1 (fun j y H e p => ⟨wipe1 σ i _, iteT fun s Hs C cl fp => ?_⟩) h3
  exact we_imp (h2 j y H e p s Hs C cl fp) fun v H4 ⟨acc, g1, g2, g3⟩ => ⟨acc, g1, g2, g3 _ rfl⟩
def LcR (X : Cx) (scope : Scope) (i : Nat) (elt e : Expr) (σ : St) (H : Hp) (Q : VK) : Prop :=
  We X e σ H fun x H1 => ∃ m : Int, x = .int m ∧ -(2 ^ 62) ≤ m ∧ m < 2 ^ 62 ∧ ∀ dl H2, H1 dl = none → H2 = upd H1 dl (.lst []) → ∃ Pv : Nat → Hp → Prop, Pv 0 H2 ∧
    (∀ (j : Nat) H, j < m.toNat → Pv j H → ∀ (s : Shared) (Hs : Hp) (C : Addr) (cl : List (Str × Addr)) (fp : List Addr), We (blk X scope s Hs C cl fp) elt ((σ.set i none).set i (some (.int (j : Int)))) H fun v H4 =>
      ∃ acc, H4 dl = some (.lst acc) ∧ acc.length < sizeLine ∧ ∀ H5, H5 = upd H4 dl (.lst (acc ++ [v])) → Pv (j + 1) H5) ∧ ∀ H, Pv m.toNat H → Q (.ref dl) H
theorem LcR.t (q : LcR X scope i elt e σ H Q) : tLc (iRng1 (tCons (We X e) tNil)) (gName i) (fun _ H Q => Q true H) (teB X scope elt) [i] σ H Q := by
  refine we_imp q fun x H1 h => ?_
  obtain ⟨m, rfl, b1, b2, h⟩ := h
  refine ⟨m, rfl, b1, b2, fun dl hn => ?_⟩
  obtain ⟨Pv, h0, h2, h3⟩ := h dl _ hn rfl
  refine lc_range (te := teB X scope elt) (tt := fun _ H Q => Q true H) (g := gName i) Pv h0 (fun j H hj p => ⟨wipe1 σ i _, iteT fun s Hs C cl fp => ?_⟩) h3
  rw [Int.zero_add]
  exact we_imp (h2 j H hj p s Hs C cl fp) fun v H4 ⟨acc, g1, g2, g3⟩ => ⟨acc, g1, g2, g3 _ rfl⟩
theorem we_lcL (hc : X.calm = true) (nd : X.N.Nodup) (no : X.N[i]? = some z) (ok : BlkOk X.N X.env.scope scope [(z, i)]) (hz : scope.names.lookup z = some .local) (q : LcL X scope i elt iter σ H Q)
    (hs : ∀ x, foldedSetIterable iter X.env x = pure x := by intro _; rfl) : We X (.ListComp elt [⟨.Name z p1, iter, [], 0⟩] scope pos) σ H Q :=
  of_pe (pe_lc hc nd (pi_list We.pe) ok (fun s Hs C cl fp => lcT nd no hz s Hs C cl fp) (fun _ _ _ _ _ => pts_nil) (fun s Hs C cl fp => lcE s Hs C cl fp) hs) q.t
theorem we_lcR (hc : X.calm = true) (nd : X.N.Nodup) (no : X.N[i]? = some z) (ok : BlkOk X.N X.env.scope scope [(z, i)]) (hz : scope.names.lookup z = some .local) (g : Bn X.env X.mg "range" (.type "range")) (q : LcR X scope i elt e σ H Q)
    (h1 : starEach [e] X.env = [(false, eval e X.env)] := by rfl)
    (hs : ∀ x, foldedSetIterable (.Call (.Name "range" p2) [e] [] p3) X.env x = pure x := by intro _; rfl) : We X (.ListComp elt [⟨.Name z p1, .Call (.Name "range" p2) [e] [] p3, [], 0⟩] scope pos) σ H Q :=
  of_pe (pe_lc hc nd (pi_range1 g.gl g.mg (pa_cons We.pe pa_nil h1) h1) ok (fun s Hs C cl fp => lcT nd no hz s Hs C cl fp) (fun _ _ _ _ _ => pts_nil) (fun s Hs C cl fp => lcE s Hs C cl fp) hs) q.t
/-- y = [elt for z in ..] -/
theorem ws_lcL {iy : Nat} (hc : X.calm = true) (nd : X.N.Nodup) (ny : X.N[iy]? = some zy) (hy : X.env.scope.names.lookup zy = some .local) (hw : swapsWith (.ListComp elt [⟨.Name z p1, iter, [], 0⟩] scope pos) (some (.Name zy p2)) spos.line X.env = pure true)
    (no : X.N[i]? = some z) (ok : BlkOk X.N X.env.scope scope [(z, i)]) (hz : scope.names.lookup z = some .local) (q : LcL X scope i elt iter σ H fun v H1 => D.nx (σ.set iy (some v)) H1)
    (hs : ∀ x, foldedSetIterable iter X.env x = pure x := by intro _; rfl) : Ws X (.Assign [.Name zy p2] (.ListComp elt [⟨.Name z p1, iter, [], 0⟩] scope pos) spos) D σ H :=
  of_ps (ps_setLc hc nd ny hy hw (pi_list We.pe) ok (fun s Hs C cl fp => lcT nd no hz s Hs C cl fp) (fun _ _ _ _ _ => pts_nil) (fun s Hs C cl fp => lcE s Hs C cl fp) hs) q.t
theorem ws_lcR {iy : Nat} {p4 : Pos} (hc : X.calm = true) (nd : X.N.Nodup) (ny : X.N[iy]? = some zy) (hy : X.env.scope.names.lookup zy = some .local)
    (hw : swapsWith (.ListComp elt [⟨.Name z p1, .Call (.Name "range" p2) [e] [] p3, [], 0⟩] scope pos) (some (.Name zy p4)) spos.line X.env = pure true)
    (no : X.N[i]? = some z) (ok : BlkOk X.N X.env.scope scope [(z, i)]) (hz : scope.names.lookup z = some .local) (g : Bn X.env X.mg "range" (.type "range")) (q : LcR X scope i elt e σ H fun v H1 => D.nx (σ.set iy (some v)) H1)
    (h1 : starEach [e] X.env = [(false, eval e X.env)] := by rfl)
    (hs : ∀ x, foldedSetIterable (.Call (.Name "range" p2) [e] [] p3) X.env x = pure x := by intro _; rfl) : Ws X (.Assign [.Name zy p4] (.ListComp elt [⟨.Name z p1, .Call (.Name "range" p2) [e] [] p3, [], 0⟩] scope pos) spos) D σ H :=
  of_ps (ps_setLc hc nd ny hy hw (pi_range1 g.gl g.mg (pa_cons We.pe pa_nil h1) h1) ok (fun s Hs C cl fp => lcT nd no hz s Hs C cl fp) (fun _ _ _ _ _ => pts_nil) (fun s Hs C cl fp => lcE s Hs C cl fp) hs) q.t
end
end Sh
section
open PySem PySem.Spec L2 PyProof.Rows Sh
local macro_rules | `(tactic| w_dflts na) => `(tactic| with_reducible assumption)
local macro_rules | `(tactic| w_dflts nm) => `(tactic| first | with_reducible assumption | exact nmF (by w_dflts na) rfl | exact nmN (by w_dflts na) rfl | exact nmO (by w_dflts na) rfl | exact gdC (by w_dflts na) rfl | exact bnC (by w_dflts na) rfl | exact gdN (by w_dflts na) rfl | exact bnN (by w_dflts na) rfl)
local macro_rules | `(tactic| w_dflts xn) => `(tactic| first
  | refine we_var (by w_dflts nm) (by exact rfl) ?_ | refine we_bty (by w_dflts nm) ?_)
local macro_rules | `(tactic| w_dflts xc) => `(tactic| first | refine we_int ?_ | refine we_str ?_ | refine we_bl ?_ | refine we_non ?_)
local macro_rules | `(tactic| w_dflts xe) => `(tactic| (refine we_id ?_; first
  | (refine we_idN ?_; w_dflts xn) | (refine we_idC ?_; w_dflts xc) | refine we_fld rfl ?_ | ((fail_if_success refine we_idSl ?_); refine we_sub (fun _ _ => rfl) ?_)
  | (refine we_idF ?_; first | refine we_callB (by w_dflts nm) ?_ | refine we_callTy (by w_dflts nm) ?_)
  | refine we_op ?_ | refine we_cmp (by first | exact nomark _ | rfl) ?_ | refine we_and ?_ | refine we_or ?_ | refine we_one ?_ | refine we_not ?_ | refine we_neg ?_
  | refine we_tup ?_ | refine we_lst ?_ | refine we_ifx ?_
  | refine we_chain (by with_unfolding_all rfl) ?_))
local macro_rules | `(tactic| w_dflts xt) => `(tactic| (refine wt_id ?_; first
  | refine wt_cmp (by first | exact nomark _ | rfl) ?_ | refine wt_not ?_ | refine wt_ww (ww_and ?_) | refine wt_ww (ww_or ?_) | refine wt_val ?_))
local macro_rules | `(tactic| w_dflts xw) => `(tactic| (refine ww_id ?_; first | refine ww_and ?_ | refine ww_or ?_ | refine ww_and1 ?_ | refine ww_or1 ?_))
local macro_rules | `(tactic| w_dflts xa) => `(tactic| (refine wa_id ?_; first | refine wa_cons ?_ | refine wa_nil ?_))
local macro_rules | `(tactic| w_dflts xb) => `(tactic| (refine wb_id ?_; first | refine wb_one ?_ | refine wb_cons ?_ | refine wb_nil ?_))
local macro_rules | `(tactic| w_dflts xs) => `(tactic| (refine ws_id ?_; first
  | refine ws_ret ?_ | refine ws_if ?_ | refine ws_expr ?_ | refine ws_pass ?_ | refine ws_fld ?_ | refine ws_asgN ?_))
local macro_rules | `(tactic| w_dflts xg) => `(tactic| (refine wg_id ?_; refine wg_name (by w_dflts nm) (by assumption) ?_))
local macro_rules | `(tactic| w_dflts xo) => `(tactic| (refine wop_id ?_; first
  | refine wop_add ?_ | refine wop_sub ?_ | refine wop_lt ?_ | refine wop_le ?_ | refine wop_gt ?_ | refine wop_ge ?_
  | refine wop_eq rfl ?_ | refine wop_ne rfl ?_ | refine wop_isN ?_ | refine wop_notN ?_))
local macro_rules | `(tactic| w_dflts xu) => `(tactic| (refine wun_id ?_; refine wun_neg ?_))
local macro_rules | `(tactic| w_dflts x1) => `(tactic| first | w_dflts xe | w_dflts xa | w_dflts xt | w_dflts xb | w_dflts xs | w_dflts xo | w_dflts xg | w_dflts xw | w_dflts xu | refine ⟨_, rfl, ?_⟩)
local macro_rules | `(tactic| w_dflts xx) => `(tactic| repeat (w_dflts x1))
local macro_rules | `(tactic| w_dflts mm) => `(tactic| first | with_reducible exact List.mem_cons_self | ((with_reducible apply List.mem_cons_of_mem); w_dflts mm))
local macro_rules | `(tactic| w_dflts rp) => `(tactic| first | with_reducible exact Rp.here | ((with_reducible apply Rp.there); w_dflts rp))
local macro_rules | `(tactic| w_dflts rm) => `(tactic| first | with_reducible exact Rm.here | ((with_reducible apply Rm.there); w_dflts rm))
local macro_rules | `(tactic| w_dflts ow) => `(tactic| with_reducible assumption)
local macro_rules | `(tactic| w_dflts pk) => `(tactic| first | (apply Pk.cons; (focus first | w_dflts rm | w_dflts rn); w_dflts pk) | exact Pk.nil)
local macro_rules | `(tactic| w_dflts rn) => `(tactic| first | exact Rm.here | ((with_reducible apply Rm.there); w_dflts rn))
local macro_rules | `(tactic| w_dflts sb) => `(tactic| first | with_reducible exact Sb.refl | ((apply Sb.cons); (focus first | w_dflts rm | w_dflts rn); w_dflts sb) | ((with_reducible apply Sb.skip); w_dflts sb) | exact Sb.nil)
local macro_rules | `(tactic| w_dflts pq) => `(tactic| first | with_reducible exact Pq.refl | ((apply Pq.cons); (focus first | w_dflts rm | w_dflts rn); w_dflts pq))
local macro_rules | `(tactic| w_dflts mq) => `(tactic| first | exact List.mem_cons_self | ((with_reducible apply List.mem_cons_of_mem); w_dflts mq))
local macro_rules | `(tactic| w_dflts mz) => `(tactic| first | w_dflts mm | w_dflts mq)
namespace Sh
def top (i : Nat) : Stmt := PySem.Challenge.pw_stalehands_k02_numbers.main.body.getD i (.Pass ⟨0, 0, 0, 0⟩)
abbrev s_is_whole : Stmt := top 17
abbrev s_are_settings : Stmt := top 18
abbrev s_checked : Stmt := top 19
abbrev s_is_handle : Stmt := top 20
abbrev s_need_handle : Stmt := top 21
abbrev s_number_of : Stmt := top 22
abbrev s_handle_of : Stmt := top 23
abbrev s__law_cell_at : Stmt := top 25
abbrev s__law_mixed : Stmt := top 26
abbrev s__law_draw : Stmt := top 27
abbrev s__law_pick : Stmt := top 28
abbrev s__law_settings : Stmt := top 29
abbrev s__law_bad_handle : Stmt := top 30
abbrev s__law_which : Stmt := top 31
abbrev s__law_ask : Stmt := top 32
abbrev s_law : Stmt := top 33
structure Txt (K : PySem.W.Frag) (mg : Str → Option Value) (C : Cl) : Prop where
  b_isinstance : mg "isinstance" = none
  b_int : mg "int" = none
  b_bool : mg "bool" = none
  b_tuple : mg "tuple" = none
  b_len : mg "len" = none
  b_str : mg "str" = none
  b_ValueError : mg "ValueError" = none
  b_range : mg "range" = none
  c_SLOTS : ∃ t, mg "SLOTS" = some (.int 60 t)
  c_ROUNDS : ∃ t, mg "ROUNDS" = some (.int 1000 t)
  c_ORDERS : ∃ a, mg "ORDERS" = some (.ref a) ∧ ∀ H, SqT K H a [.str "first", .str "last"]
  c_ENDS : ∃ a, mg "ENDS" = some (.ref a) ∧ ∀ H, SqT K H a [.str "worn", .str "round"]
  x_HandError : Xn K mg "HandError" C.HandError
  x_NoSettings : Xn K mg "NoSettings" C.NoSettings
  x_NoWorth : Xn K mg "NoWorth" C.NoWorth
  x_NoHandle : Xn K mg "NoHandle" C.NoHandle
  x_Stale : Xn K mg "Stale" C.Stale
  x_Full : Xn K mg "Full" C.Full
  x_NoPlace : Xn K mg "NoPlace" C.NoPlace
  x_NoList : Xn K mg "NoList" C.NoList
  x_NoNumber : Xn K mg "NoNumber" C.NoNumber
  x_NotEmpty : Xn K mg "NotEmpty" C.NotEmpty
  x_NoDeed : Xn K mg "NoDeed" C.NoDeed
  w_e : ∀ e : Er, ExcC K (C.of e)
  w_k : ∀ e f : Er, PySem.W.kitOne K (.ref (C.of e)) (.ref (C.of f)) = some (decide (e = f))
  w_v : ∀ e : Er, PySem.W.kitOne K (.ref (C.of e)) (.type "ValueError") = some true
  w_h : ∀ e : Er, PySem.W.exmOne K (.ref (C.of e)) (.ref C.HandError) = some true
  d_is_whole : DefAt K mg "is_whole" s_is_whole ["thing", "low", "most"]
  d_are_settings : DefAt K mg "are_settings" s_are_settings ["thing"]
  d_checked : DefAt K mg "checked" s_checked ["settings"]
  d_is_handle : DefAt K mg "is_handle" s_is_handle ["settings", "thing"]
  d_need_handle : DefAt K mg "need_handle" s_need_handle ["settings", "thing"]
  d_number_of : DefAt K mg "number_of" s_number_of ["settings", "handle"]
  d_handle_of : DefAt K mg "handle_of" s_handle_of ["settings", "number"]
  d__law_cell_at : DefAt K mg "_law_cell_at" s__law_cell_at ["script", "k"]
  d__law_mixed : DefAt K mg "_law_mixed" s__law_mixed ["script", "k", "many"]
  d__law_draw : DefAt K mg "_law_draw" s__law_draw ["script", "town", "many"]
  d__law_pick : DefAt K mg "_law_pick" s__law_pick ["script", "town", "some"]
  d__law_settings : DefAt K mg "_law_settings" s__law_settings ["script", "town"]
  d__law_bad_handle : DefAt K mg "_law_bad_handle" s__law_bad_handle ["script", "town", "settings"]
  d__law_which : DefAt K mg "_law_which" s__law_which ["e"]
  d__law_ask : DefAt K mg "_law_ask" s__law_ask ["what", "settings", "thing"]
  d_law : DefAt K mg "law" s_law ["script"]
abbrev N_is_whole : List Str := ["thing", "low", "most"]
theorem sc_is_whole : FnScope N_is_whole ["thing", "low", "most"] (defScope s_is_whole) := ⟨rfl, rfl, rfl, by decide +kernel, rfl, by decide +kernel, by decide +kernel⟩
theorem nm_is_whole {C : Cl} {X : Cx} (T : Txt X.K X.mg C) (B : Nf X N_is_whole (defScope s_is_whole)) : Nm X.N X.env 0 "thing" ∧ Nm X.N X.env 1 "low" ∧ Nm X.N X.env 2 "most" ∧ Nl X.N X.env X.fn 0 "thing" ∧ Nl X.N X.env X.fn 1 "low" ∧ Nl X.N X.env X.fn 2 "most" ∧ Bn X.env X.mg "isinstance" (.builtin "isinstance") ∧ Bn X.env X.mg "int" (.type "int") ∧ Bn X.env X.mg "bool" (.type "bool") ∧ True :=
  ⟨B.nm rfl (Or.inl rfl) rfl rfl, B.nm rfl (Or.inl rfl) rfl rfl, B.nm rfl (Or.inl rfl) rfl rfl, B.nl rfl (Or.inl rfl), B.nl rfl (Or.inl rfl), B.nl rfl (Or.inl rfl), ⟨B.gl rfl, rfl, T.b_isinstance, bt_isinstance, nn_isinstance⟩, ⟨B.gl rfl, rfl, T.b_int, bt_int, nn_int⟩, ⟨B.gl rfl, rfl, T.b_bool, bt_bool, nn_bool⟩, trivial⟩
abbrev N_are_settings : List Str := ["thing"]
theorem sc_are_settings : FnScope N_are_settings ["thing"] (defScope s_are_settings) := ⟨rfl, rfl, rfl, by decide +kernel, rfl, by decide +kernel, by decide +kernel⟩
theorem nm_are_settings {C : Cl} {X : Cx} (T : Txt X.K X.mg C) (B : Nf X N_are_settings (defScope s_are_settings)) : Nm X.N X.env 0 "thing" ∧ Nl X.N X.env X.fn 0 "thing" ∧ Bn X.env X.mg "isinstance" (.builtin "isinstance") ∧ Bn X.env X.mg "tuple" (.type "tuple") ∧ Bn X.env X.mg "len" (.builtin "len") ∧ Gd X.env "is_whole" ∧ Gd X.env "SLOTS" ∧ Gd X.env "ROUNDS" ∧ Bn X.env X.mg "str" (.type "str") ∧ Gd X.env "ORDERS" ∧ Gd X.env "ENDS" ∧ True :=
  ⟨B.nm rfl (Or.inl rfl) rfl rfl, B.nl rfl (Or.inl rfl), ⟨B.gl rfl, rfl, T.b_isinstance, bt_isinstance, nn_isinstance⟩, ⟨B.gl rfl, rfl, T.b_tuple, bt_tuple, nn_tuple⟩, ⟨B.gl rfl, rfl, T.b_len, bt_len, nn_len⟩, B.gd rfl rfl, B.gd rfl rfl, B.gd rfl rfl, ⟨B.gl rfl, rfl, T.b_str, bt_str, nn_str⟩, B.gd rfl rfl, B.gd rfl rfl, trivial⟩
abbrev N_checked : List Str := ["settings"]
theorem sc_checked : FnScope N_checked ["settings"] (defScope s_checked) := ⟨rfl, rfl, rfl, by decide +kernel, rfl, by decide +kernel, by decide +kernel⟩
theorem nm_checked {C : Cl} {X : Cx} (T : Txt X.K X.mg C) (B : Nf X N_checked (defScope s_checked)) : Nm X.N X.env 0 "settings" ∧ Nl X.N X.env X.fn 0 "settings" ∧ Gd X.env "are_settings" ∧ Gd X.env "NoSettings" ∧ True :=
  ⟨B.nm rfl (Or.inl rfl) rfl rfl, B.nl rfl (Or.inl rfl), B.gd rfl rfl, B.gd rfl rfl, trivial⟩
abbrev N_is_handle : List Str := ["settings", "thing"]
theorem sc_is_handle : FnScope N_is_handle ["settings", "thing"] (defScope s_is_handle) := ⟨rfl, rfl, rfl, by decide +kernel, rfl, by decide +kernel, by decide +kernel⟩
theorem nm_is_handle {C : Cl} {X : Cx} (T : Txt X.K X.mg C) (B : Nf X N_is_handle (defScope s_is_handle)) : Nm X.N X.env 0 "settings" ∧ Nm X.N X.env 1 "thing" ∧ Nl X.N X.env X.fn 0 "settings" ∧ Nl X.N X.env X.fn 1 "thing" ∧ Bn X.env X.mg "isinstance" (.builtin "isinstance") ∧ Bn X.env X.mg "tuple" (.type "tuple") ∧ Bn X.env X.mg "len" (.builtin "len") ∧ Gd X.env "is_whole" ∧ True :=
  ⟨B.nm rfl (Or.inl rfl) rfl rfl, B.nm rfl (Or.inl rfl) rfl rfl, B.nl rfl (Or.inl rfl), B.nl rfl (Or.inl rfl), ⟨B.gl rfl, rfl, T.b_isinstance, bt_isinstance, nn_isinstance⟩, ⟨B.gl rfl, rfl, T.b_tuple, bt_tuple, nn_tuple⟩, ⟨B.gl rfl, rfl, T.b_len, bt_len, nn_len⟩, B.gd rfl rfl, trivial⟩
abbrev N_need_handle : List Str := ["settings", "thing"]
theorem sc_need_handle : FnScope N_need_handle ["settings", "thing"] (defScope s_need_handle) := ⟨rfl, rfl, rfl, by decide +kernel, rfl, by decide +kernel, by decide +kernel⟩
theorem nm_need_handle {C : Cl} {X : Cx} (T : Txt X.K X.mg C) (B : Nf X N_need_handle (defScope s_need_handle)) : Nm X.N X.env 0 "settings" ∧ Nm X.N X.env 1 "thing" ∧ Nl X.N X.env X.fn 0 "settings" ∧ Nl X.N X.env X.fn 1 "thing" ∧ Gd X.env "is_handle" ∧ Gd X.env "NoHandle" ∧ True :=
  ⟨B.nm rfl (Or.inl rfl) rfl rfl, B.nm rfl (Or.inl rfl) rfl rfl, B.nl rfl (Or.inl rfl), B.nl rfl (Or.inl rfl), B.gd rfl rfl, B.gd rfl rfl, trivial⟩
abbrev N_number_of : List Str := ["settings", "handle"]
theorem sc_number_of : FnScope N_number_of ["settings", "handle"] (defScope s_number_of) := ⟨rfl, rfl, rfl, by decide +kernel, rfl, by decide +kernel, by decide +kernel⟩
theorem nm_number_of {C : Cl} {X : Cx} (T : Txt X.K X.mg C) (B : Nf X N_number_of (defScope s_number_of)) : Nm X.N X.env 0 "settings" ∧ Nm X.N X.env 1 "handle" ∧ Nl X.N X.env X.fn 0 "settings" ∧ Nl X.N X.env X.fn 1 "handle" ∧ Gd X.env "checked" ∧ Gd X.env "need_handle" ∧ True :=
  ⟨B.nm rfl (Or.inl rfl) rfl rfl, B.nm rfl (Or.inl rfl) rfl rfl, B.nl rfl (Or.inl rfl), B.nl rfl (Or.inl rfl), B.gd rfl rfl, B.gd rfl rfl, trivial⟩
abbrev N_handle_of : List Str := ["settings", "number"]
theorem sc_handle_of : FnScope N_handle_of ["settings", "number"] (defScope s_handle_of) := ⟨rfl, rfl, rfl, by decide +kernel, rfl, by decide +kernel, by decide +kernel⟩
theorem nm_handle_of {C : Cl} {X : Cx} (T : Txt X.K X.mg C) (B : Nf X N_handle_of (defScope s_handle_of)) : Nm X.N X.env 0 "settings" ∧ Nm X.N X.env 1 "number" ∧ Nl X.N X.env X.fn 0 "settings" ∧ Nl X.N X.env X.fn 1 "number" ∧ Gd X.env "checked" ∧ Gd X.env "is_whole" ∧ Gd X.env "NoNumber" ∧ True :=
  ⟨B.nm rfl (Or.inl rfl) rfl rfl, B.nm rfl (Or.inl rfl) rfl rfl, B.nl rfl (Or.inl rfl), B.nl rfl (Or.inl rfl), B.gd rfl rfl, B.gd rfl rfl, B.gd rfl rfl, trivial⟩
abbrev N__law_cell_at : List Str := ["script", "k"]
theorem sc__law_cell_at : FnScope N__law_cell_at ["script", "k"] (defScope s__law_cell_at) := ⟨rfl, rfl, rfl, by decide +kernel, rfl, by decide +kernel, by decide +kernel⟩
theorem nm__law_cell_at {C : Cl} {X : Cx} (T : Txt X.K X.mg C) (B : Nf X N__law_cell_at (defScope s__law_cell_at)) : Nm X.N X.env 0 "script" ∧ Nm X.N X.env 1 "k" ∧ Nl X.N X.env X.fn 0 "script" ∧ Nl X.N X.env X.fn 1 "k" ∧ Bn X.env X.mg "len" (.builtin "len") ∧ True :=
  ⟨B.nm rfl (Or.inl rfl) rfl rfl, B.nm rfl (Or.inl rfl) rfl rfl, B.nl rfl (Or.inl rfl), B.nl rfl (Or.inl rfl), ⟨B.gl rfl, rfl, T.b_len, bt_len, nn_len⟩, trivial⟩
abbrev N__law_mixed : List Str := ["script", "k", "many", "drawn"]
theorem sc__law_mixed : FnScope N__law_mixed ["script", "k", "many"] (defScope s__law_mixed) := ⟨rfl, rfl, rfl, by decide +kernel, rfl, by decide +kernel, by decide +kernel⟩
theorem nm__law_mixed {C : Cl} {X : Cx} (T : Txt X.K X.mg C) (B : Nf X N__law_mixed (defScope s__law_mixed)) : Nm X.N X.env 0 "script" ∧ Nm X.N X.env 1 "k" ∧ Nm X.N X.env 2 "many" ∧ Nm X.N X.env 3 "drawn" ∧ Nl X.N X.env X.fn 0 "script" ∧ Nl X.N X.env X.fn 1 "k" ∧ Nl X.N X.env X.fn 2 "many" ∧ Nl X.N X.env X.fn 3 "drawn" ∧ Gd X.env "_law_cell_at" ∧ True :=
  ⟨B.nm rfl (Or.inl rfl) rfl rfl, B.nm rfl (Or.inl rfl) rfl rfl, B.nm rfl (Or.inl rfl) rfl rfl, B.nm rfl (Or.inl rfl) rfl rfl, B.nl rfl (Or.inl rfl), B.nl rfl (Or.inl rfl), B.nl rfl (Or.inl rfl), B.nl rfl (Or.inl rfl), B.gd rfl rfl, trivial⟩
abbrev N__law_draw : List Str := ["script", "town", "many"]
theorem sc__law_draw : FnScope N__law_draw ["script", "town", "many"] (defScope s__law_draw) := ⟨rfl, rfl, rfl, by decide +kernel, rfl, by decide +kernel, by decide +kernel⟩
theorem nm__law_draw {C : Cl} {X : Cx} (T : Txt X.K X.mg C) (B : Nf X N__law_draw (defScope s__law_draw)) : Nm X.N X.env 0 "script" ∧ Nm X.N X.env 1 "town" ∧ Nm X.N X.env 2 "many" ∧ Nl X.N X.env X.fn 0 "script" ∧ Nl X.N X.env X.fn 1 "town" ∧ Nl X.N X.env X.fn 2 "many" ∧ Gd X.env "_law_mixed" ∧ Bn X.env X.mg "len" (.builtin "len") ∧ True :=
  ⟨B.nm rfl (Or.inl rfl) rfl rfl, B.nm rfl (Or.inl rfl) rfl rfl, B.nm rfl (Or.inl rfl) rfl rfl, B.nl rfl (Or.inl rfl), B.nl rfl (Or.inl rfl), B.nl rfl (Or.inl rfl), B.gd rfl rfl, ⟨B.gl rfl, rfl, T.b_len, bt_len, nn_len⟩, trivial⟩
abbrev N__law_pick : List Str := ["script", "town", "some"]
theorem sc__law_pick : FnScope N__law_pick ["script", "town", "some"] (defScope s__law_pick) := ⟨rfl, rfl, rfl, by decide +kernel, rfl, by decide +kernel, by decide +kernel⟩
theorem nm__law_pick {C : Cl} {X : Cx} (T : Txt X.K X.mg C) (B : Nf X N__law_pick (defScope s__law_pick)) : Nm X.N X.env 0 "script" ∧ Nm X.N X.env 1 "town" ∧ Nm X.N X.env 2 "some" ∧ Nl X.N X.env X.fn 0 "script" ∧ Nl X.N X.env X.fn 1 "town" ∧ Nl X.N X.env X.fn 2 "some" ∧ Gd X.env "_law_draw" ∧ Bn X.env X.mg "len" (.builtin "len") ∧ True :=
  ⟨B.nm rfl (Or.inl rfl) rfl rfl, B.nm rfl (Or.inl rfl) rfl rfl, B.nm rfl (Or.inl rfl) rfl rfl, B.nl rfl (Or.inl rfl), B.nl rfl (Or.inl rfl), B.nl rfl (Or.inl rfl), B.gd rfl rfl, ⟨B.gl rfl, rfl, T.b_len, bt_len, nn_len⟩, trivial⟩
abbrev N__law_settings : List Str := ["script", "town", "slots", "rounds"]
theorem sc__law_settings : FnScope N__law_settings ["script", "town"] (defScope s__law_settings) := ⟨rfl, rfl, rfl, by decide +kernel, rfl, by decide +kernel, by decide +kernel⟩
theorem nm__law_settings {C : Cl} {X : Cx} (T : Txt X.K X.mg C) (B : Nf X N__law_settings (defScope s__law_settings)) : Nm X.N X.env 0 "script" ∧ Nm X.N X.env 1 "town" ∧ Nm X.N X.env 2 "slots" ∧ Nm X.N X.env 3 "rounds" ∧ Nl X.N X.env X.fn 0 "script" ∧ Nl X.N X.env X.fn 1 "town" ∧ Nl X.N X.env X.fn 2 "slots" ∧ Nl X.N X.env X.fn 3 "rounds" ∧ Gd X.env "_law_pick" ∧ True :=
  ⟨B.nm rfl (Or.inl rfl) rfl rfl, B.nm rfl (Or.inl rfl) rfl rfl, B.nm rfl (Or.inl rfl) rfl rfl, B.nm rfl (Or.inl rfl) rfl rfl, B.nl rfl (Or.inl rfl), B.nl rfl (Or.inl rfl), B.nl rfl (Or.inl rfl), B.nl rfl (Or.inl rfl), B.gd rfl rfl, trivial⟩
abbrev N__law_bad_handle : List Str := ["script", "town", "settings", "some"]
theorem sc__law_bad_handle : FnScope N__law_bad_handle ["script", "town", "settings"] (defScope s__law_bad_handle) := ⟨rfl, rfl, rfl, by decide +kernel, rfl, by decide +kernel, by decide +kernel⟩
theorem nm__law_bad_handle {C : Cl} {X : Cx} (T : Txt X.K X.mg C) (B : Nf X N__law_bad_handle (defScope s__law_bad_handle)) : Nm X.N X.env 0 "script" ∧ Nm X.N X.env 1 "town" ∧ Nm X.N X.env 2 "settings" ∧ Nm X.N X.env 3 "some" ∧ Nl X.N X.env X.fn 0 "script" ∧ Nl X.N X.env X.fn 1 "town" ∧ Nl X.N X.env X.fn 2 "settings" ∧ Nl X.N X.env X.fn 3 "some" ∧ Gd X.env "_law_pick" ∧ True :=
  ⟨B.nm rfl (Or.inl rfl) rfl rfl, B.nm rfl (Or.inl rfl) rfl rfl, B.nm rfl (Or.inl rfl) rfl rfl, B.nm rfl (Or.inl rfl) rfl rfl, B.nl rfl (Or.inl rfl), B.nl rfl (Or.inl rfl), B.nl rfl (Or.inl rfl), B.nl rfl (Or.inl rfl), B.gd rfl rfl, trivial⟩
abbrev N__law_which : List Str := ["e", "own"]
theorem sc__law_which : FnScope N__law_which ["e"] (defScope s__law_which) := ⟨rfl, rfl, rfl, by decide +kernel, rfl, by decide +kernel, by decide +kernel⟩
theorem nm__law_which {C : Cl} {X : Cx} (T : Txt X.K X.mg C) (B : Nf X N__law_which (defScope s__law_which)) : Nm X.N X.env 0 "e" ∧ Nm X.N X.env 1 "own" ∧ Nl X.N X.env X.fn 0 "e" ∧ Nl X.N X.env X.fn 1 "own" ∧ Bn X.env X.mg "isinstance" (.builtin "isinstance") ∧ Gd X.env "NoSettings" ∧ Gd X.env "NoWorth" ∧ Gd X.env "NoHandle" ∧ Gd X.env "Stale" ∧ Gd X.env "Full" ∧ Gd X.env "NoPlace" ∧ Gd X.env "NoList" ∧ Gd X.env "NoNumber" ∧ Gd X.env "NotEmpty" ∧ Gd X.env "NoDeed" ∧ Bn X.env X.mg "ValueError" (.type "ValueError") ∧ True :=
  ⟨B.nm rfl (Or.inl rfl) rfl rfl, B.nm rfl (Or.inl rfl) rfl rfl, B.nl rfl (Or.inl rfl), B.nl rfl (Or.inl rfl), ⟨B.gl rfl, rfl, T.b_isinstance, bt_isinstance, nn_isinstance⟩, B.gd rfl rfl, B.gd rfl rfl, B.gd rfl rfl, B.gd rfl rfl, B.gd rfl rfl, B.gd rfl rfl, B.gd rfl rfl, B.gd rfl rfl, B.gd rfl rfl, B.gd rfl rfl, ⟨B.gl rfl, rfl, T.b_ValueError, bt_ValueError, nn_ValueError⟩, trivial⟩
abbrev N__law_ask : List Str := ["what", "settings", "thing", "e"]
theorem sc__law_ask : FnScope N__law_ask ["what", "settings", "thing"] (defScope s__law_ask) := ⟨rfl, rfl, rfl, by decide +kernel, rfl, by decide +kernel, by decide +kernel⟩
theorem nm__law_ask {C : Cl} {X : Cx} (T : Txt X.K X.mg C) (B : Nf X N__law_ask (defScope s__law_ask)) : Nm X.N X.env 0 "what" ∧ Nm X.N X.env 1 "settings" ∧ Nm X.N X.env 2 "thing" ∧ Nm X.N X.env 3 "e" ∧ Nl X.N X.env X.fn 0 "what" ∧ Nl X.N X.env X.fn 1 "settings" ∧ Nl X.N X.env X.fn 2 "thing" ∧ Nl X.N X.env X.fn 3 "e" ∧ Gd X.env "number_of" ∧ Gd X.env "handle_of" ∧ Gd X.env "HandError" ∧ Gd X.env "_law_which" ∧ X.env.kindOf "e" = some .local ∧ True :=
  ⟨B.nm rfl (Or.inl rfl) rfl rfl, B.nm rfl (Or.inl rfl) rfl rfl, B.nm rfl (Or.inl rfl) rfl rfl, B.nm rfl (Or.inl rfl) rfl rfl, B.nl rfl (Or.inl rfl), B.nl rfl (Or.inl rfl), B.nl rfl (Or.inl rfl), B.nl rfl (Or.inl rfl), B.gd rfl rfl, B.gd rfl rfl, B.gd rfl rfl, B.gd rfl rfl, B.lk rfl, trivial⟩
abbrev N_law : List Str := ["script", "town", "settings", "handle", "number", "most", "what"]
theorem sc_law : FnScope N_law ["script"] (defScope s_law) := ⟨rfl, rfl, rfl, by decide +kernel, rfl, by decide +kernel, by decide +kernel⟩
theorem nm_law {C : Cl} {X : Cx} (T : Txt X.K X.mg C) (B : Nf X N_law (defScope s_law)) : Nm X.N X.env 0 "script" ∧ Nm X.N X.env 1 "town" ∧ Nm X.N X.env 2 "settings" ∧ Nm X.N X.env 3 "handle" ∧ Nm X.N X.env 4 "number" ∧ Nm X.N X.env 5 "most" ∧ Nl X.N X.env X.fn 0 "script" ∧ Nl X.N X.env X.fn 1 "town" ∧ Nl X.N X.env X.fn 2 "settings" ∧ Nl X.N X.env X.fn 3 "handle" ∧ Nl X.N X.env X.fn 4 "number" ∧ Nl X.N X.env X.fn 5 "most" ∧ Gd X.env "_law_settings" ∧ Gd X.env "_law_draw" ∧ Gd X.env "_law_ask" ∧ Gd X.env "_law_bad_handle" ∧ Gd X.env "_law_pick" ∧ Bn X.env X.mg "range" (.type "range") ∧ No X.N 6 "what" ∧ True :=
  ⟨B.nm rfl (Or.inl rfl) rfl rfl, B.nm rfl (Or.inl rfl) rfl rfl, B.nm rfl (Or.inl rfl) rfl rfl, B.nm rfl (Or.inl rfl) rfl rfl, B.nm rfl (Or.inl rfl) rfl rfl, B.nm rfl (Or.inl rfl) rfl rfl, B.nl rfl (Or.inl rfl), B.nl rfl (Or.inl rfl), B.nl rfl (Or.inl rfl), B.nl rfl (Or.inl rfl), B.nl rfl (Or.inl rfl), B.nl rfl (Or.inl rfl), B.gd rfl rfl, B.gd rfl rfl, B.gd rfl rfl, B.gd rfl rfl, B.gd rfl rfl, ⟨B.gl rfl, rfl, T.b_range, bt_range, nn_range⟩, B.no rfl rfl rfl, trivial⟩
end Sh
namespace Sh
/-! ### settings -/
section
variable {P : Program} {w : World} {K : PySem.W.Frag} {mg : Str → Option Value} {base : Heap} {C : Cl}
theorem dn_is_whole (T : Txt K mg C) : Dn P w K mg base 1 "is_whole" ["thing", "low", "most"] (spIsWhole K) := by
  refine dn_of T.d_is_whole sc_is_whole (fun vs H Q E ⟨_, _, _, _, h, _⟩ => by rw [h] <;> rfl) fun X e1 e2 e3 e4 e5 B vs H Q E tk h => ?_
  subst e1 e2 e3 e4 e5
  obtain ⟨v, d, lo, hi, rfl, hd, q⟩ := h
  obtain ⟨n_thing, n_low, n_most, l_thing, l_low, l_most, g_isinstance, g_int, g_bool, -⟩ := nm_is_whole T B.nf
  w_dflts xx
  refine wc_isi hd (isi_int d) ?_
  w_dflts xx
  refine ite_b (fun h1 => ?_) fun h1 => ?_
  · w_dflts xx
    refine wc_isi hd (isi_bool d) ?_
    w_dflts xx
    refine ite_b (fun h2 => ?_) fun h2 => ?_
    · cases hd with
      | int i =>
        w_dflts xx
        refine ite_b (fun h3 => ?_) fun h3 => ?_
        · w_dflts xx
          have e : isWhole (.int i) lo hi = decide (i ≤ hi) := by show (decide (lo ≤ i) && decide (i ≤ hi)) = _; rw [h3] <;> rfl
          rw [← e]; exact q
        · have e : isWhole (.int i) lo hi = false := by show (decide (lo ≤ i) && decide (i ≤ hi)) = _; rw [h3] <;> rfl
          rw [← e]; exact q
      | bl b => cases h2
      | _ => cases h1
    · cases hd with
      | bl b => exact q
      | int i => cases h2
      | _ => cases h1
  · cases hd with
    | int i => cases h1
    | bl b => cases h1
    | _ => exact q
theorem dn_are_settings (T : Txt K mg C) : Dn P w K mg base 2 "are_settings" ["thing"] (spAreSettings K) := by
  refine dn_of T.d_are_settings sc_are_settings (fun vs H Q E ⟨_, _, h, _⟩ => by rw [h] <;> rfl) fun X e1 e2 e3 e4 e5 B vs H Q E tk h => ?_
  subst e1 e2 e3 e4 e5
  obtain ⟨v, d, rfl, hd, q⟩ := h
  obtain ⟨n_thing, l_thing, g_isinstance, g_tuple, g_len, g_is_whole, g_SLOTS, g_ROUNDS, g_str, g_ORDERS, g_ENDS, -⟩ := nm_are_settings T B.nf
  w_dflts xx
  refine wc_isi hd (isi_tuple d) ?_
  w_dflts xx
  refine ite_b (fun h1 => ?_) fun h1 => ?_
  · rw [if_pos rfl]
    w_dflts xx
    cases hd with
    | tup _ _ => cases h1
    | _ => exact q
  · cases hd with
    | @tup a xs ds ha hds =>
      w_dflts xx
      refine wc_lenT ha ?_
      w_dflts xx
      have hl := DpAll.len hds
      refine ite_b (fun h2 => ?_) fun h2 => ?_
      · w_dflts xx
        have ne : ds.length ≠ 4 := by
          intro e
          rw [hl, e] at h2
          revert h2
          decide
        have e : areSettings (.tuple ds) = false := by
          match ds, ne with
          | [], _ => rfl
          | [_], _ => rfl
          | [_, _], _ => rfl
          | [_, _, _], _ => rfl
          | [_, _, _, _], ne => exact absurd rfl ne
          | _ :: _ :: _ :: _ :: _ :: _, _ => rfl
        rw [← e]; exact q
      · have l4 : ds.length = 4 := by
          by_cases e : ds.length = 4
          · exact e
          · exfalso
            rw [hl] at h2
            revert h2
            simp only [Bool.not_eq_false', decide_eq_true_eq, V.int.injEq]
            omega
        obtain ⟨d0, d1, d2, d3, rfl⟩ : ∃ d0 d1 d2 d3, ds = [d0, d1, d2, d3] := by
          match ds, l4 with
          | [a, b, c, d], _ => exact ⟨a, b, c, d, rfl⟩
        cases hds with
        | @cons x0 _ _ _ k0 hds =>
        cases hds with
        | @cons x1 _ _ _ k1 hds =>
        cases hds with
        | @cons x2 _ _ _ k2 hds =>
        cases hds with
        | @cons x3 _ _ _ k3 hds =>
        cases hds
        have E0 : ∀ b : Bool, areSettings (.tuple [d0, d1, d2, d3]) = b → Q (.bl b) H := fun b e => e ▸ q
        have E1 : areSettings (.tuple [d0, d1, d2, d3]) = (isWhole d0 1 60 && isWhole d1 1 1000 && isOne "first" "last" d2 && isOne "worn" "round" d3) := rfl
        w_dflts xx
        refine we_call tk B.hr g_is_whole (dn_is_whole T) (by decide) ?_
        w_dflts xx
        refine ws_tup ha rfl ?_
        w_dflts xx
        refine we_gint g_SLOTS T.c_SLOTS ?_
        w_dflts xx
        refine ⟨_, d0, _, _, rfl, k0, ?_⟩
        w_dflts xx
        refine ite_b (fun h3 => ?_) fun h3 => ?_
        · rw [if_pos rfl]
          w_dflts xx
          refine E0 _ ?_
          rw [E1]
          revert h3
          cases isWhole d0 1 60 <;> simp
        w_dflts xx
        refine we_call tk B.hr g_is_whole (dn_is_whole T) (by decide) ?_
        w_dflts xx
        refine ws_tup ha rfl ?_
        w_dflts xx
        refine we_gint g_ROUNDS T.c_ROUNDS ?_
        w_dflts xx
        refine ⟨_, d1, _, _, rfl, k1, ?_⟩
        w_dflts xx
        refine ite_b (fun h4 => ?_) fun h4 => ?_
        · w_dflts xx
          refine E0 _ ?_
          rw [E1]
          revert h3 h4
          cases isWhole d0 1 60 <;> cases isWhole d1 1 1000 <;> simp
        have h34 : (isWhole d0 1 60 && isWhole d1 1 1000) = true := by
          revert h3 h4
          cases isWhole d0 1 60 <;> cases isWhole d1 1 1000 <;> simp
        rw [h34, Bool.true_and] at E1
        w_dflts xx
        refine ws_tup ha rfl ?_
        w_dflts xx
        refine wc_isi k2 (isi_str d2) ?_
        w_dflts xx
        refine ite_b (fun h5 => ?_) fun h5 => ?_
        · rw [if_pos rfl]
          w_dflts xx
          refine E0 _ ?_
          rw [E1]
          cases d2 with
          | str s => cases h5
          | _ => rfl
        cases k2 with
        | str s =>
          w_dflts xx
          refine ws_tup ha rfl ?_
          obtain ⟨ao, mo, so⟩ := T.c_ORDERS
          refine we_gref g_ORDERS mo ?_
          refine of_op op_notIn_seq ⟨ao, _, rfl, .inr (so _), rfl, rfl, ?_⟩
          w_dflts xx
          rw [if_pos rfl, inV2, eqV_str, eqV_str]
          refine ite_b (fun h6 => ?_) fun h6 => ?_
          · w_dflts xx
            refine E0 _ ?_
            rw [E1]
            rw [Bool.not_eq_true'] at h6
            show (isOne "first" "last" (.str s) && _) = false
            rw [show isOne "first" "last" (.str s) = false from h6] <;> rfl
          have h7 : isOne "first" "last" (.str s) = true := by rw [Bool.not_eq_false'] at h6; exact h6
          rw [h7, Bool.true_and] at E1
          w_dflts xx
          refine ws_tup ha rfl ?_
          w_dflts xx
          refine wc_isi k3 (isi_str d3) ?_
          w_dflts xx
          refine ite_b (fun h8 => ?_) fun h8 => ?_
          · cases k3 with
            | str z =>
              w_dflts xx
              refine ws_tup ha rfl ?_
              obtain ⟨ae, me, se⟩ := T.c_ENDS
              refine we_gref g_ENDS me ?_
              refine of_op op_in_seq ⟨ae, _, rfl, .inr (se _), rfl, rfl, ?_⟩
              rw [if_neg Bool.false_ne_true, inV2, eqV_str, eqV_str]
              exact E0 _ E1
            | _ => cases h8
          · refine E0 _ ?_
            rw [E1]
            cases d3 with
            | str s => cases h8
            | _ => rfl
        | _ => cases h5
    | _ => cases h1
theorem dn_checked (T : Txt K mg C) : Dn P w K mg base 3 "checked" ["settings"] (spChecked K C) := by
  refine dn_of T.d_checked sc_checked (fun vs H Q E ⟨_, _, h, _⟩ => by rw [h] <;> rfl) fun X e1 e2 e3 e4 e5 B vs H Q E tk h => ?_
  subst e1 e2 e3 e4 e5
  obtain ⟨v, d, rfl, hd, q1, q2⟩ := h
  obtain ⟨n_settings, l_settings, g_are_settings, g_NoSettings, -⟩ := nm_checked T B.nf
  w_dflts xx
  refine we_call tk B.hr g_are_settings (dn_are_settings T) (by decide) ?_
  w_dflts xx
  refine ⟨_, d, rfl, hd, ?_⟩
  w_dflts xx
  refine ite_b (fun h1 => ?_) fun h1 => ?_
  · w_dflts xx
    refine ws_raiseX B.calm tk g_NoSettings T.x_NoSettings (q2 ?_)
    simpa using h1
  · w_dflts xx
    refine q1 ?_
    simpa using h1
theorem dn_is_handle (T : Txt K mg C) : Dn P w K mg base 2 "is_handle" ["settings", "thing"] (spIsHandle K) := by
  refine dn_of T.d_is_handle sc_is_handle (fun vs H Q E ⟨_, _, _, _, _, h, _⟩ => by rw [h] <;> rfl) fun X e1 e2 e3 e4 e5 B vs H Q E tk h => ?_
  subst e1 e2 e3 e4 e5
  obtain ⟨s, v, n, r, d, rfl, ⟨sa, sc, sd, rfl, hs⟩, hd, q⟩ := h
  obtain ⟨n_settings, n_thing, l_settings, l_thing, g_isinstance, g_tuple, g_len, g_is_whole, -⟩ := nm_is_handle T B.nf
  w_dflts xx
  refine wc_isi hd (isi_tuple d) ?_
  w_dflts xx
  refine ite_b (fun h1 => ?_) fun h1 => ?_
  · rw [if_pos rfl]
    w_dflts xx
    cases hd with
    | tup _ _ => cases h1
    | _ => exact q
  cases hd with
  | @tup a xs ds ha hds =>
    w_dflts xx
    refine wc_lenT ha ?_
    w_dflts xx
    have hl := DpAll.len hds
    refine ite_b (fun h2 => ?_) fun h2 => ?_
    · w_dflts xx
      have ne : ds.length ≠ 2 := by
        intro e
        rw [hl, e] at h2
        revert h2
        decide
      have e : isHandle n r (.tuple ds) = false := by
        match ds, ne with
        | [], _ => rfl
        | [_], _ => rfl
        | [_, _], ne => exact absurd rfl ne
        | _ :: _ :: _ :: _, _ => rfl
      rw [← e]; exact q
    have l2 : ds.length = 2 := by
      by_cases e : ds.length = 2
      · exact e
      · exfalso
        rw [hl] at h2
        revert h2
        simp only [Bool.not_eq_false', decide_eq_true_eq, V.int.injEq]
        omega
    obtain ⟨d0, d1, rfl⟩ : ∃ d0 d1, ds = [d0, d1] := by
      match ds, l2 with
      | [a, b], _ => exact ⟨a, b, rfl⟩
    cases hds with
    | @cons x0 _ _ _ k0 hds =>
    cases hds with
    | @cons x1 _ _ _ k1 hds =>
    cases hds
    w_dflts xx
    refine we_call tk B.hr g_is_whole (dn_is_whole T) (by decide) ?_
    w_dflts xx
    refine ws_tup ha rfl ?_
    w_dflts xx
    refine ws_tup hs rfl ?_
    w_dflts xx
    refine ⟨_, d0, _, _, rfl, k0, ?_⟩
    w_dflts xx
    have E0 : ∀ b : Bool, isHandle n r (.tuple [d0, d1]) = b → Q (.bl b) H := fun b e => e ▸ q
    have E1 : isHandle n r (.tuple [d0, d1]) = (isWhole d0 0 (n - 1) && isWhole d1 0 (r - 1)) := rfl
    refine ite_b (fun h3 => ?_) fun h3 => ?_
    · w_dflts xx
      refine we_call tk B.hr g_is_whole (dn_is_whole T) (by decide) ?_
      w_dflts xx
      refine ws_tup ha rfl ?_
      w_dflts xx
      refine ws_tup hs rfl ?_
      w_dflts xx
      refine ⟨_, d1, _, _, rfl, k1, E0 _ ?_⟩
      rw [E1, h3, Bool.true_and]
    · refine E0 _ ?_
      rw [E1, h3, Bool.false_and]
  | _ => cases h1
theorem dn_need_handle (T : Txt K mg C) : Dn P w K mg base 3 "need_handle" ["settings", "thing"] (spNeedHandle K C) := by
  refine dn_of T.d_need_handle sc_need_handle (fun vs H Q E ⟨_, _, _, _, _, h, _⟩ => by rw [h] <;> rfl) fun X e1 e2 e3 e4 e5 B vs H Q E tk h => ?_
  subst e1 e2 e3 e4 e5
  obtain ⟨s, v, n, r, d, rfl, hs, hd, q1, q2⟩ := h
  obtain ⟨n_settings, n_thing, l_settings, l_thing, g_is_handle, g_NoHandle, -⟩ := nm_need_handle T B.nf
  w_dflts xx
  refine we_call tk B.hr g_is_handle (dn_is_handle T) (by decide) ?_
  w_dflts xx
  refine ⟨_, _, n, r, d, rfl, hs, hd, ?_⟩
  w_dflts xx
  refine ite_b (fun h1 => ?_) fun h1 => ?_
  · w_dflts xx
    refine ws_raiseX B.calm tk g_NoHandle T.x_NoHandle (q2 ?_)
    simpa using h1
  · w_dflts xx
    refine q1 ?_
    simpa using h1
end
end Sh
namespace Sh

end Sh
local macro_rules | `(tactic| w_dflts xh) => `(tactic| first
  | refine recvP (by w_dflts ow) (by w_dflts mm) (by rfl) ?_
  | refine recvS (by w_dflts ow) (by w_dflts mm) (fun _ => rfl) ?_
  | refine isL_ok (by w_dflts ow) (by w_dflts mm) ?_ | refine isD_ok (by w_dflts ow) (by w_dflts mm) ?_
  | refine o_lenL (by w_dflts ow) (by w_dflts mm) ?_ | refine o_lenT (by w_dflts ow) (by w_dflts mm) ?_
  | refine o_subT (by w_dflts ow) (by w_dflts mm) rfl ?_)
local macro_rules | `(tactic| w_dflts xy) => `(tactic| repeat (first | w_dflts x1 | w_dflts xh))
namespace Sh
/-! ### what the laws draw -/
section
variable {P : Program} {w : World} {K : PySem.W.Frag} {mg : Str → Option Value} {base : Heap} {C : Cl}
theorem dn_cell (T : Txt K mg C) : Dn P w K mg base 1 "_law_cell_at" ["script", "k"] (spCell K) := by
  refine dn_of T.d__law_cell_at sc__law_cell_at (fun vs H Q E ⟨_, _, _, _, h, _⟩ => by rw [h] <;> rfl) fun X e1 e2 e3 e4 e5 B vs H Q E tk h => ?_
  subst e1 e2 e3 e4 e5
  obtain ⟨a, ns, k, L, rfl, hO, hm, hk, q⟩ := h
  obtain ⟨n_script, n_k, l_script, l_k, g_len, -⟩ := nm__law_cell_at T B.nf
  w_dflts xx
  refine wc_lenL (hO.sq hm) ?_
  rw [iv_len]
  w_dflts xx
  refine ite_b (fun h1 => ?_) fun h1 => ?_
  · have hlt : k < ns.length := by simpa using h1
    obtain ⟨j, rfl⟩ : ∃ j : Nat, k = j := ⟨k.toNat, by omega⟩
    w_dflts xx
    refine ws_list (hO.sq hm) (atI_nat (iv_get (by omega))) (q _ _ hO)
  · w_dflts xx
    refine ⟨by decide, fun e0 H1 hn e => ?_⟩
    replace hO := hO.newE hn e
    have hm' : sq X.K a (iv ns) ∈ pt e0 (.lst []) :: L := List.mem_cons_of_mem _ hm
    refine wop_eqP (j := 1) B.hr (.lst (hO.sq hm') (dpAll_iv ns)) (.lst (SqL.of (hO.pt (by w_dflts mm))) .nil) (pl_ids 0 ns) rfl (by decide) fun b hb => ?_
    w_dflts xx
    refine ite_b (fun h2 => ?_) fun h2 => ?_
    · w_dflts xx
      exact q _ _ hO.drop
    · have hne : ns ≠ [] := fun z => by
        rw [hb.mpr (by rw [z] <;> rfl)] at h2
        cases h2
      have hlen : 0 < ns.length := List.length_pos_iff.mpr hne
      w_dflts xx
      refine wc_lenL (hO.sq hm') ?_
      rw [iv_len]
      refine wop_mod (by omega) ?_
      obtain ⟨j, hj⟩ : ∃ j : Nat, k % (ns.length : Int) = j := ⟨(k % (ns.length : Int)).toNat, by have := Int.emod_nonneg k (show (ns.length : Int) ≠ 0 by omega); omega⟩
      have hj2 : j < ns.length := by have := Int.emod_lt_of_pos k (show (0 : Int) < ns.length by omega); omega
      rw [hj]
      refine ws_list (hO.sq hm') (atI_nat (iv_get hj2)) ?_
      w_dflts xx
      refine wop_mul (.inr (by decide)) ?_
      w_dflts xx
      exact q _ _ hO.drop
theorem dn_mixed (T : Txt K mg C) : Dn P w K mg base 2 "_law_mixed" ["script", "k", "many"] (spMixed K) := by
  refine dn_of T.d__law_mixed sc__law_mixed (fun vs H Q E ⟨_, _, _, _, _, h, _⟩ => by rw [h] <;> rfl) fun X e1 e2 e3 e4 e5 B vs H Q E tk h => ?_
  subst e1 e2 e3 e4 e5
  obtain ⟨a, ns, k, m, L, rfl, hO, hm, hk, h0, q⟩ := h
  obtain ⟨n_script, n_k, n_many, n_drawn, l_script, l_k, l_many, l_drawn, g__law_cell_at, -⟩ := nm__law_mixed T B.nf
  have nd := B.nd
  w_dflts xx
  refine we_call tk B.hr g__law_cell_at (dn_cell T) (by decide) ?_
  w_dflts xx
  refine ⟨a, ns, k, L, rfl, hO, hm, hk, fun i H1 hO => ?_⟩
  w_dflts xx
  refine wop_mul (.inl (by decide)) ?_
  w_dflts xx
  refine wop_mul (.inr (by decide)) ?_
  w_dflts xx
  refine wop_mod (by decide) ?_
  w_dflts xx
  generalize hz : (i + 7919 * k + 1) * 48271 % 2147483647 = z
  have z0 : 0 ≤ z := by rw [← hz]; exact Int.emod_nonneg _ (by decide)
  have z1 : z < 2147483647 := by rw [← hz]; exact Int.emod_lt_of_pos _ (by decide)
  refine wop_mul (.inl ⟨by omega, by omega⟩) ?_
  w_dflts xx
  refine wop_mul (.inl (by decide)) ?_
  w_dflts xx
  refine wop_mod (by decide) ?_
  w_dflts xx
  refine wop_mod h0 ?_
  exact q _ _ (Int.emod_nonneg _ (by omega)) (Int.emod_lt_of_pos _ h0) hO
theorem dn_draw (T : Txt K mg C) : Dn P w K mg base 3 "_law_draw" ["script", "town", "many"] (spDraw K) := by
  refine dn_of T.d__law_draw sc__law_draw (fun vs H Q E ⟨_, _, _, _, _, _, h, _⟩ => by rw [h] <;> rfl) fun X e1 e2 e3 e4 e5 B vs H Q E tk h => ?_
  subst e1 e2 e3 e4 e5
  obtain ⟨a, t, ns, n, m, L, rfl, hO, hn, h0, q⟩ := h
  obtain ⟨n_script, n_town, n_many, l_script, l_town, l_many, g__law_mixed, g_len, -⟩ := nm__law_draw T B.nf
  unfold town at hO
  w_dflts xx
  refine we_append ?_
  w_dflts xx
  refine ⟨⟨_, SqL.of (hO.pt (by w_dflts mm))⟩, ?_⟩
  w_dflts xx
  refine ⟨_, hO.pt (by w_dflts mm), szl (by unfold zs; rw [List.length_replicate]; omega), fun H1 e1 => ?_⟩
  rw [zs_app] at e1
  replace hO := hO.wrE e1 (by w_dflts mm) ntL (by w_dflts rp)
  w_dflts xx
  refine we_call tk B.hr g__law_mixed (dn_mixed T) (by decide) ?_
  w_dflts xx
  refine o_lenL hO (by w_dflts mm) ?_
  w_dflts xx
  exact ⟨a, ns, _, m, _, rfl, hO, by w_dflts mm, by omega, h0, fun i H' h1 h2 hO => q i H' h1 h2 hO⟩
theorem dn_pick (T : Txt K mg C) : Dn P w K mg base 4 "_law_pick" ["script", "town", "some"] (spPick K) := by
  refine dn_of T.d__law_pick sc__law_pick (fun vs H Q E ⟨_, _, _, _, _, _, _, h, _⟩ => by rw [h] <;> rfl) fun X e1 e2 e3 e4 e5 B vs H Q E tk h => ?_
  subst e1 e2 e3 e4 e5
  obtain ⟨a, t, l, ns, n, xs, L, rfl, hO, hn, h0, q⟩ := h
  obtain ⟨n_script, n_town, n_some, l_script, l_town, l_some, g__law_draw, g_len, -⟩ := nm__law_pick T B.nf
  w_dflts xx
  refine we_call tk B.hr g__law_draw (dn_draw T) (by decide) ?_
  w_dflts xx
  refine o_lenL hO (by w_dflts mm) ?_
  w_dflts xx
  refine ⟨a, t, ns, n, _, _, rfl, hO, hn, by omega, fun i H1 h1 h2 hO => ?_⟩
  obtain ⟨j, rfl⟩ : ∃ j : Nat, i = j := ⟨i.toNat, by omega⟩
  have hj : j < xs.length := by omega
  refine o_subL hO (by w_dflts mm) (atI_nat (List.getElem?_eq_getElem hj)) (q _ _ (List.getElem_mem hj) hO)
end
end Sh
namespace Sh
/-! ### which refusal it was -/
section
variable {P : Program} {w : World} {K : PySem.W.Frag} {mg : Str → Option Value} {base : Heap} {C : Cl}
theorem countB {b0 b1 b2 b3 b4 b5 b6 b7 b8 b9 : Bool} : True := trivial
theorem en_which (T : Txt K mg C) : En P w K mg base 1 "_law_which" ["e"] (spWhich C) := by
  refine en_of T.d__law_which sc__law_which (fun a D vs H Q E ⟨_, _, h, _⟩ => by rw [h] <;> rfl) fun X e1 e2 e3 e4 e5 a oe D B vs H Q E h => ?_
  subst e1 e2 e3 e4 e5
  obtain ⟨e, L, rfl, rfl, hO, q⟩ := h
  obtain ⟨n_e, n_own, l_e, l_own, g_isinstance, g_NoSettings, g_NoWorth, g_NoHandle, g_Stale, g_Full, g_NoPlace, g_NoList, g_NoNumber, g_NotEmpty, g_NoDeed, g_ValueError, -⟩ := nm__law_which T B.nf
  have nd := B.nd
  have isi : ∀ (f : Er) {Q' : VK} {H' : Hp}, Q' (.bl (decide (e = f))) H' → Wcall X (.builtin "isinstance") [.ref a, .ref (C.of f)] H' Q' := fun f Q' H' k =>
    wc_isE B.pn (T.w_e e) B.zc B.fl (cv := .ref (C.of f)) (fun u r => r) (T.w_k e f) k
  w_dflts xx
  refine we_gref g_NoSettings T.x_NoSettings.g ?_
  w_dflts xx
  refine isi .NoSettings ?_
  w_dflts xx
  refine we_gref g_NoWorth T.x_NoWorth.g ?_
  w_dflts xx
  refine isi .NoWorth ?_
  w_dflts xx
  refine we_gref g_NoHandle T.x_NoHandle.g ?_
  w_dflts xx
  refine isi .NoHandle ?_
  w_dflts xx
  refine we_gref g_Stale T.x_Stale.g ?_
  w_dflts xx
  refine isi .Stale ?_
  w_dflts xx
  refine ⟨sz (Nat.le_of_ble_eq_true rfl), fun l0 H1 hn e0 => ?_⟩
  replace hO := hO.newE hn e0
  w_dflts xx
  refine we_extend ?_
  w_dflts xx
  refine isL_ok hO (by w_dflts mm) ?_
  w_dflts xx
  refine we_gref g_Full T.x_Full.g ?_
  w_dflts xx
  refine isi .Full ?_
  w_dflts xx
  refine we_gref g_NoPlace T.x_NoPlace.g ?_
  w_dflts xx
  refine isi .NoPlace ?_
  w_dflts xx
  refine we_gref g_NoList T.x_NoList.g ?_
  w_dflts xx
  refine isi .NoList ?_
  w_dflts xx
  refine we_gref g_NoNumber T.x_NoNumber.g ?_
  w_dflts xx
  refine isi .NoNumber ?_
  w_dflts xx
  refine ⟨sz (Nat.le_of_ble_eq_true rfl), fun l1 H2 hn e0 => ?_⟩
  replace hO := hO.newE hn e0
  w_dflts xx
  refine ⟨_, _, _, rfl, hO.pt (by w_dflts mm), hO.pt (by w_dflts mm), sz (Nat.le_of_ble_eq_true rfl), fun H3 e3 => ?_⟩
  replace hO := (hO.wrE e3 (by w_dflts mm) ntL (by w_dflts rp)).drop
  w_dflts xx
  refine we_extend ?_
  w_dflts xx
  refine isL_ok hO (by w_dflts mm) ?_
  w_dflts xx
  refine we_gref g_NotEmpty T.x_NotEmpty.g ?_
  w_dflts xx
  refine isi .NotEmpty ?_
  w_dflts xx
  refine we_gref g_NoDeed T.x_NoDeed.g ?_
  w_dflts xx
  refine isi .NoDeed ?_
  w_dflts xx
  refine ⟨sz (Nat.le_of_ble_eq_true rfl), fun l2 H4 hn e0 => ?_⟩
  replace hO := hO.newE hn e0
  w_dflts xx
  refine ⟨_, _, _, rfl, hO.pt (by w_dflts mm), hO.pt (by w_dflts mm), sz (Nat.le_of_ble_eq_true rfl), fun H5 e5 => ?_⟩
  replace hO := (hO.wrE e5 (by w_dflts mm) ntL (by w_dflts rp)).drop
  w_dflts xx
  refine we_count ?_
  w_dflts xx
  refine isL_ok hO (by w_dflts mm) ?_
  w_dflts xx
  refine ⟨_, SqL.of (hO.pt (by w_dflts mm)), rfl, rfl, ?_⟩
  w_dflts xx
  refine ite_f (by cases e <;> decide) ?_
  w_dflts xx
  refine wc_isE B.pn (T.w_e e) B.zc B.fl (cv := .type "ValueError") (fun u r => r) (T.w_v e) ?_
  w_dflts xx
  refine we_index ?_
  w_dflts xx
  refine isL_ok hO (by w_dflts mm) ?_
  w_dflts xx
  refine ⟨_, (erI e).toNat, .bl true, SqL.of (hO.pt (by w_dflts mm)), rfl, rfl, by cases e <;> decide, rfl, fun m z' hm hz => ?_, ?_⟩
  · exact which_min e hm hz
  · w_dflts xx
    refine ⟨sz (Nat.le_of_ble_eq_true rfl), fun t H6 hn e6 => ?_⟩
    replace hO := hO.newTE hn e6
    have ee : (((erI e).toNat : Nat) : Int) = erI e := by cases e <;> rfl
    rw [ee] at hO
    exact q t H6 (hO.front (.there .here)).drop
theorem roomH_mark {A : Around} {k : Nat} (r : Room k A) (v : Option Value) : L2H.RoomH k (A.mark v) := ⟨r.dp, r.un⟩
/-- except HandError as e: return _law_which(e) -/
theorem caught {X : Cx} {i k : Nat} {D : Ends} {σ : St} {H : Hp} {L : List Asn} {Wout : WX} {p1 p2 p3 p4 : Pos} (T : Txt X.K X.mg C) (hr : Room k X.A) (hk : 1 ≤ k) (n_e : Nm X.N X.env i "e") (g : Gd X.env "_law_which") (hi : i < σ.length) (e : Er) (hO : Own H L)
    (q : ∀ t H', Own H' (tp t [.str "refused", .int (erI e)] :: L) → D.rt (.ref t) H') :
    wAs X.K (.ref C.HandError) i (fun a cls d D σ H => ∀ (oe : Obj) (pn' : List (Addr × Obj)), L2N.Zn cls d oe → (∃ vs, oe.data = .fields vs) →
      Wb (X.suite a ((a, oe) :: pn')) [.Return (some (.Call (.Name "_law_which" p1) [.Name "e" p2] [] p3)) p4] D σ H) Wout D (.ref (C.of e)) none σ H := by
  refine ⟨true, T.w_h e, fun _ a ha oe pn' hz hf => ?_, fun z => by cases z⟩
  refine wb_one (ws_ret ?_)
  refine we_callE (X := X.suite a ((a, oe) :: pn')) (l := k) (ad := a) (oe := oe) (De := C.of e) (roomH_mark hr _) ⟨rfl, hz.zc, hf⟩ List.mem_cons_self g (en_which T) hk ?_
  refine wa_cons (we_var n_e (List.getElem?_set_self hi) (wa_nil ?_))
  exact ⟨e, L, rfl, rfl, hO, q⟩
end
end Sh
namespace Sh
/-! ### settings that a law draws -/
section
variable {P : Program} {w : World} {K : PySem.W.Frag} {mg : Str → Option Value} {base : Heap} {C : Cl}
theorem dn_lawset (T : Txt K mg C) : Dn P w K mg base 5 "_law_settings" ["script", "town"] (spSettings K) := by
  refine dn_of T.d__law_settings sc__law_settings (fun vs H Q E ⟨_, _, _, _, _, h, _⟩ => by rw [h] <;> rfl) fun X e1 e2 e3 e4 e5 B vs H Q E tk h => ?_
  subst e1 e2 e3 e4 e5
  obtain ⟨a, t, ns, n, L, rfl, hO, hn, q⟩ := h
  obtain ⟨n_script, n_town, n_slots, n_rounds, l_script, l_town, l_slots, l_rounds, g__law_pick, -⟩ := nm__law_settings T B.nf
  have nd := B.nd
  w_dflts xx
  refine we_call tk B.hr g__law_pick (dn_pick T) (by decide) ?_
  w_dflts xx
  refine ⟨sz (Nat.le_of_ble_eq_true rfl), fun l H1 hn1 e => ?_⟩
  replace hO := hO.newE hn1 e
  w_dflts xx
  refine ⟨a, t, l, ns, n, _, _, rfl, Own.pq (by w_dflts pq) hO, by omega, by exact Nat.zero_lt_succ _, fun v H1 hv hO => ?_⟩
  obtain ⟨m, rfl, hm⟩ := mem_iv (xs := [1, 2, 3, 4, 6, 60]) hv
  replace hO := hO.sub (G := sq X.K a (iv ns) :: town t (n + 1) :: L) (by w_dflts sb)
  w_dflts xx
  refine we_call tk B.hr g__law_pick (dn_pick T) (by decide) ?_
  w_dflts xx
  refine ⟨sz (Nat.le_of_ble_eq_true rfl), fun l H2 hn1 e => ?_⟩
  replace hO := hO.newE hn1 e
  w_dflts xx
  refine ⟨a, t, l, ns, _, _, _, rfl, Own.pq (by w_dflts pq) hO, by omega, by exact Nat.zero_lt_succ _, fun v H2 hv hO => ?_⟩
  obtain ⟨r, rfl, hr⟩ := mem_iv (xs := [1, 2, 3, 5, 1000]) hv
  replace hO := hO.sub (G := sq X.K a (iv ns) :: town t (n + 1 + 1) :: L) (by w_dflts sb)
  w_dflts xx
  refine we_call tk B.hr g__law_pick (dn_pick T) (by decide) ?_
  w_dflts xx
  refine ⟨sz (Nat.le_of_ble_eq_true rfl), fun l H2 hn1 e => ?_⟩
  replace hO := hO.newE hn1 e
  w_dflts xx
  refine ⟨a, t, l, ns, _, _, _, rfl, Own.pq (by w_dflts pq) hO, by omega, by exact Nat.zero_lt_succ _, fun v H2 hv hO => ?_⟩
  obtain ⟨la, rfl⟩ : ∃ la, v = .str (ordS la) := by
    simp only [List.mem_cons, List.not_mem_nil, or_false] at hv
    rcases hv with rfl | rfl
    · exact ⟨false, rfl⟩
    · exact ⟨true, rfl⟩
  replace hO := hO.sub (G := sq X.K a (iv ns) :: town t (n + 1 + 1 + 1) :: L) (by w_dflts sb)
  w_dflts xx
  refine we_call tk B.hr g__law_pick (dn_pick T) (by decide) ?_
  w_dflts xx
  refine ⟨sz (Nat.le_of_ble_eq_true rfl), fun l H2 hn1 e => ?_⟩
  replace hO := hO.newE hn1 e
  w_dflts xx
  refine ⟨a, t, l, ns, _, _, _, rfl, Own.pq (by w_dflts pq) hO, by omega, by exact Nat.zero_lt_succ _, fun v H2 hv hO => ?_⟩
  obtain ⟨rn, rfl⟩ : ∃ la, v = .str (endS la) := by
    simp only [List.mem_cons, List.not_mem_nil, or_false] at hv
    rcases hv with rfl | rfl
    · exact ⟨false, rfl⟩
    · exact ⟨true, rfl⟩
  replace hO := hO.sub (G := sq X.K a (iv ns) :: town t (n + 4) :: L) (by w_dflts sb)
  w_dflts xx
  refine ⟨sz (Nat.le_of_ble_eq_true rfl), fun s H5 hn1 e => ?_⟩
  exact q s m r la rn H5 hm hr (hO.newTE hn1 e)
end
end Sh
namespace Sh
/-! ### handles as numbers -/
section
variable {P : Program} {w : World} {K : PySem.W.Frag} {mg : Str → Option Value} {base : Heap} {C : Cl}
theorem dn_number_of (T : Txt K mg C) : Dn P w K mg base 4 "number_of" ["settings", "handle"] (spNumberOf K C) := by
  refine dn_of T.d_number_of sc_number_of (fun vs H Q E ⟨_, _, _, h, _⟩ => by rw [h] <;> rfl) fun X e1 e2 e3 e4 e5 B vs H Q E tk h => ?_
  subst e1 e2 e3 e4 e5
  obtain ⟨s, v, d, rfl, hd, h⟩ := h
  obtain ⟨n_settings, n_handle, l_settings, l_handle, g_checked, g_need_handle, -⟩ := nm_number_of T B.nf
  w_dflts xx
  refine we_call tk B.hr g_checked (dn_checked T) (by decide) ?_
  w_dflts xx
  rcases h with ⟨a, m, r, la, rn, rfl, hs, h1, h2, h3, h4, q1, q2⟩ | ⟨sd, hsd, hf, q⟩
  · refine ⟨_, _, rfl, dpSet hs, fun _ => ?_, fun z => by rw [areSet la rn h1 h2 h3 h4] at z; cases z⟩
    w_dflts xx
    refine we_call tk B.hr g_need_handle (dn_need_handle T) (by decide) ?_
    w_dflts xx
    refine ⟨_, _, m, r, d, rfl, ⟨_, _, _, rfl, hs⟩, hd, fun hh => ?_, fun hh => q1 (asH_none hh)⟩
    rw [isHandle_asH] at hh
    obtain ⟨⟨x, c⟩, e⟩ := Option.isSome_iff_exists.mp hh
    obtain ⟨rfl, rr⟩ := asH_some e
    obtain ⟨t, xs, rfl, ht, hds⟩ := Dp.tupI hd
    cases hds with
    | cons k0 hds =>
    cases k0
    cases hds with
    | cons k1 hds =>
    cases k1
    cases hds
    w_dflts xx
    refine ws_tup ht rfl ?_
    w_dflts xx
    refine ws_tup hs rfl ?_
    refine wop_mul (.inr ⟨by omega, by omega⟩) ?_
    w_dflts xx
    refine ws_tup ht rfl ?_
    w_dflts xx
    exact q2 _ _ e
  · exact ⟨_, sd, rfl, hsd, fun z => (by rw [hf] at z; cases z), fun _ => q⟩
theorem dn_handle_of (T : Txt K mg C) : Dn P w K mg base 4 "handle_of" ["settings", "number"] (spHandleOf K C) := by
  refine dn_of T.d_handle_of sc_handle_of (fun vs H Q E ⟨_, _, _, h, _⟩ => by rw [h] <;> rfl) fun X e1 e2 e3 e4 e5 B vs H Q E tk h => ?_
  subst e1 e2 e3 e4 e5
  obtain ⟨s, v, d, rfl, hd, h⟩ := h
  obtain ⟨n_settings, n_number, l_settings, l_number, g_checked, g_is_whole, g_NoNumber, -⟩ := nm_handle_of T B.nf
  w_dflts xx
  refine we_call tk B.hr g_checked (dn_checked T) (by decide) ?_
  w_dflts xx
  rcases h with ⟨a, m, r, la, rn, rfl, hs, h1, h2, h3, h4, q1, q2⟩ | ⟨sd, hsd, hf, q⟩
  · refine ⟨_, _, rfl, dpSet hs, fun _ => ?_, fun z => by rw [areSet la rn h1 h2 h3 h4] at z; cases z⟩
    w_dflts xx
    refine we_call tk B.hr g_is_whole (dn_is_whole T) (by decide) ?_
    w_dflts xx
    refine ws_tup hs rfl ?_
    w_dflts xx
    refine ws_tup hs rfl ?_
    refine wop_mul (.inl ⟨by omega, by omega⟩) ?_
    w_dflts xx
    refine ⟨_, d, _, _, rfl, hd, ?_⟩
    w_dflts xx
    refine ite_b (fun hh => ?_) fun hh => ?_
    · w_dflts xx
      refine ws_raiseX B.calm tk g_NoNumber T.x_NoNumber (q1 ?_)
      simpa using hh
    · have hw : isWhole d 0 (m * r - 1) = true := by simpa using hh
      obtain ⟨k, rfl⟩ : ∃ k, d = .int k := by
        cases d with
        | int k => exact ⟨k, rfl⟩
        | _ => cases hw
      cases hd
      w_dflts xx
      refine ws_tup hs rfl ?_
      refine wop_mod (by omega) ?_
      w_dflts xx
      refine ws_tup hs rfl ?_
      refine wop_fdiv (by omega) (by omega) ?_
      w_dflts xx
      exact ⟨sz (Nat.le_of_ble_eq_true rfl), fun p H' hn e => q2 k rfl hw p H' hn e⟩
  · exact ⟨_, sd, rfl, hsd, fun z => (by rw [hf] at z; cases z), fun _ => q⟩
end
end Sh
namespace Sh
/-! ### what is no handle -/
section
variable {P : Program} {w : World} {K : PySem.W.Frag} {mg : Str → Option Value} {base : Heap} {C : Cl}
theorem dn_badh (T : Txt K mg C) : Dn P w K mg base 5 "_law_bad_handle" ["script", "town", "settings"] (spBadH K) := by
  refine dn_of T.d__law_bad_handle sc__law_bad_handle (fun vs H Q E ⟨_, _, _, _, _, _, _, _, _, _, h, _⟩ => by rw [h] <;> rfl) fun X e1 e2 e3 e4 e5 B vs H Q E tk h => ?_
  subst e1 e2 e3 e4 e5
  obtain ⟨a, t, s, ns, n, m, r, la, rn, L, rfl, hO, hm, hn, q⟩ := h
  obtain ⟨n_script, n_town, n_settings, n_some, l_script, l_town, l_settings, l_some, g__law_pick, -⟩ := nm__law_bad_handle T B.nf
  have nd := B.nd
  have hs := hO.tp (List.mem_cons_of_mem _ (List.mem_cons_of_mem _ hm))
  replace hO := hO.addT hs
  w_dflts xx
  refine ⟨sz (Nat.le_of_ble_eq_true rfl), fun l0 H1 hn1 e => ?_⟩
  replace hO := hO.newE hn1 e
  w_dflts xx
  refine ⟨sz (Nat.le_of_ble_eq_true rfl), fun t0 H2 hn1 e => ?_⟩
  replace hO := hO.newTE hn1 e
  w_dflts xx
  refine ⟨sz (Nat.le_of_ble_eq_true rfl), fun t1 H3 hn1 e => ?_⟩
  replace hO := hO.newTE hn1 e
  w_dflts xx
  refine o_subT hO (by w_dflts mm) (by rfl) ?_
  w_dflts xx
  refine ⟨sz (Nat.le_of_ble_eq_true rfl), fun t2 H4 hn1 e => ?_⟩
  replace hO := hO.newTE hn1 e
  w_dflts xx
  refine o_subT hO (by w_dflts mm) (by rfl) ?_
  w_dflts xx
  refine ⟨sz (Nat.le_of_ble_eq_true rfl), fun t3 H5 hn1 e => ?_⟩
  replace hO := hO.newTE hn1 e
  w_dflts xx
  refine ⟨sz (Nat.le_of_ble_eq_true rfl), fun t4 H6 hn1 e => ?_⟩
  replace hO := hO.newTE hn1 e
  w_dflts xx
  refine ⟨sz (Nat.le_of_ble_eq_true rfl), fun t5 H7 hn1 e => ?_⟩
  replace hO := hO.newTE hn1 e
  w_dflts xx
  refine ⟨sz (Nat.le_of_ble_eq_true rfl), fun t6 H8 hn1 e => ?_⟩
  replace hO := hO.newTE hn1 e
  w_dflts xx
  refine ⟨sz (Nat.le_of_ble_eq_true rfl), fun lx H9 hn1 e => ?_⟩
  replace hO := hO.newE hn1 e
  w_dflts xx
  refine we_extend ?_
  w_dflts xx
  refine isL_ok hO (by w_dflts mm) ?_
  w_dflts xx
  refine ⟨sz (Nat.le_of_ble_eq_true rfl), fun t7 Ha hn1 e => ?_⟩
  replace hO := hO.newTE hn1 e
  w_dflts xx
  refine ⟨sz (Nat.le_of_ble_eq_true rfl), fun ly Hb hn1 e => ?_⟩
  replace hO := hO.newE hn1 e
  w_dflts xx
  refine ⟨_, _, _, rfl, hO.pt (by w_dflts mm), hO.pt (by w_dflts mm), sz (Nat.le_of_ble_eq_true rfl), fun Hc e3 => ?_⟩
  replace hO := (hO.wrE e3 (by w_dflts mm) ntL (by w_dflts rp)).drop
  w_dflts xx
  refine we_call tk B.hr g__law_pick (dn_pick T) (by decide) ?_
  w_dflts xx
  refine ⟨a, t, lx, ns, n, _, _, rfl, Own.pq (by w_dflts pq) hO, by omega, by exact Nat.zero_lt_succ _, fun v Hd hv hO => ?_⟩
  have fin : ∀ (v : V) (d : PyData), isHandle m r d = false → Dt Hd v d → Q v Hd := fun v d h1 h2 => q v d Hd h1 ((hO.sub (G := sq X.K a (iv ns) :: town t (n + 1) :: L) (by w_dflts sb)).addDl h2)
  simp only [List.cons_append, List.nil_append, List.mem_cons, List.not_mem_nil, or_false] at hv
  rcases hv with rfl | rfl | rfl | rfl | rfl | rfl | rfl | rfl | rfl | rfl | rfl | rfl
  · exact fin _ .none rfl .non
  · refine q _ (.list [.int 0, .int 0]) Hd rfl ?_
    have hO := hO.sub (G := pt l0 (.lst [.int 0, .int 0]) :: sq X.K a (iv ns) :: town t (n + 1) :: L) (by w_dflts sb)
    exact hO.toDl (.cons (.int _) (.cons (.int _) .nil))
  · exact fin _ (.tuple [.int 0]) rfl (.tup (hO.tp (by w_dflts mm)) (.cons (.int _) .nil))
  · exact fin _ (.tuple [.int 0, .int 0, .int 0]) rfl (.tup (hO.tp (by w_dflts mm)) (.cons (.int _) (.cons (.int _) (.cons (.int _) .nil))))
  · refine fin _ (.tuple [.int m, .int 0]) ?_ (.tup (hO.tp (by w_dflts mm)) (.cons (.int _) (.cons (.int _) .nil)))
    show ((decide (0 ≤ m) && decide (m ≤ m - 1)) && isWhole (.int 0) 0 (r - 1)) = false
    rw [decide_eq_false (show ¬ m ≤ m - 1 by omega), Bool.and_false, Bool.false_and]
  · refine fin _ (.tuple [.int 0, .int r]) ?_ (.tup (hO.tp (by w_dflts mm)) (.cons (.int _) (.cons (.int _) .nil)))
    show (isWhole (.int 0) 0 (m - 1) && (decide (0 ≤ r) && decide (r ≤ r - 1))) = false
    rw [decide_eq_false (show ¬ r ≤ r - 1 by omega), Bool.and_false, Bool.and_false]
  · refine fin _ (.tuple [.int (-1), .int 0]) ?_ (.tup (hO.tp (by w_dflts mm)) (.cons (.int _) (.cons (.int _) .nil)))
    rfl
  · refine fin _ (.tuple [.int 0, .int (-1)]) ?_ (.tup (hO.tp (by w_dflts mm)) (.cons (.int _) (.cons (.int _) .nil)))
    show (isWhole (.int 0) 0 (m - 1) && (decide ((0 : Int) ≤ -1) && decide ((-1 : Int) ≤ r - 1))) = false
    rw [decide_eq_false (by decide), Bool.false_and, Bool.and_false]
  · exact fin _ (.tuple [.bool true, .int 0]) rfl (.tup (hO.tp (by w_dflts mm)) (.cons (.bl _) (.cons (.int _) .nil)))
  · refine fin _ (.tuple [.int 0, .none]) ?_ (.tup (hO.tp (by w_dflts mm)) (.cons (.int _) (.cons .non .nil)))
    show (isWhole (.int 0) 0 (m - 1) && false) = false
    rw [Bool.and_false]
  · exact fin _ (.str "a") rfl (.str _)
  · exact fin _ (.int 0) rfl (.int _)
end
end Sh
namespace Sh
/-! ### the law -/
def badH (m r : Int) : List PyData := [.none, .list [.int 0, .int 0], .tuple [.int 0], .tuple [.int 0, .int 0, .int 0], .tuple [.int m, .int 0], .tuple [.int 0, .int r], .tuple [.int (-1), .int 0], .tuple [.int 0, .int (-1)], .tuple [.bool true, .int 0],
  .tuple [.int 0, .none], .str "a", .int 0]
def askD (what m r : Int) (d : PyData) : PyData :=
  if what = 0 then (match asH m r d with | none => refD .NoHandle | some (x, c) => .int (c * m + x))
  else (match d with | .int k => if isWhole d 0 (m * r - 1) then .tuple [.int (k % m), .int (k / m)] else refD .NoNumber | _ => refD .NoNumber)
def spAskN (K : PySem.W.Frag) (C : Cl) : Sp := fun vs H Q _ => ∃ (what : Int) (s v : V) (d : PyData) (L : List Asn), vs = [.int what, s, v] ∧ (what = 0 ∨ what = 1) ∧ Own H L ∧ Dp K H v d ∧
  ((∃ (a : Addr) (m r : Int) (la rn : Bool), s = .ref a ∧ tp a (setV m r la rn) ∈ L ∧ 1 ≤ m ∧ m ≤ 60 ∧ 1 ≤ r ∧ r ≤ 1000 ∧ ∀ y H', Own H' (dt y (askD what m r d) :: L) → Q y H') ∨
   (∃ sd : PyData, Dp K H s sd ∧ areSettings sd = false ∧ ∀ y H', Own H' (dt y (refD .NoSettings) :: L) → Q y H'))
section
variable {P : Program} {w : World} {K : PySem.W.Frag} {mg : Str → Option Value} {base : Heap} {C : Cl}
theorem Own.tpD {H : Hp} {L : List Asn} {t : Addr} {xs : List V} {ds : List PyData} (h : Own H (Sh.tp t xs :: L)) (e : DtAll H xs ds) : Own H (Sh.dt (.ref t) (.tuple ds) :: L) :=
  h.drop.addD (.tup (h.tp List.mem_cons_self) e)
theorem ref_dt {H : Hp} {L : List Asn} {t : Addr} {e : Er} (h : Own H (tp t [.str "refused", .int (erI e)] :: L)) : Own H (dt (.ref t) (refD e) :: L) := h.tpD (.cons (.str _) (.cons (.int _) .nil))
theorem dn_ask (T : Txt K mg C) : Dn P w K mg base 5 "_law_ask" ["what", "settings", "thing"] (spAskN K C) := by
  refine dn_of T.d__law_ask sc__law_ask (fun vs H Q E ⟨_, _, _, _, _, h, _⟩ => by rw [h] <;> rfl) fun X e1 e2 e3 e4 e5 B vs H Q E tk h => ?_
  subst e1 e2 e3 e4 e5
  obtain ⟨what, s, v, d, L, rfl, hw, hO, hd, h⟩ := h
  obtain ⟨n_what, n_settings, n_thing, n_e, l_what, l_settings, l_thing, l_e, g_number_of, g_handle_of, g_HandError, g__law_which, k_e, -⟩ := nm__law_ask T B.nf
  have nd := B.nd
  w_dflts xx
  refine ws_try (i := 3) B.stk B.frm nd n_e.at' k_e ⟨g_HandError.gl, g_HandError.hd, .inl T.x_HandError.g⟩ tk fun pn xe tk' po => ?_
  w_dflts xx
  refine we_callX tk' B.hr ?_
  w_dflts xx
  obtain ⟨f1, fd1, F1, m1, k1, b1⟩ := (dn_number_of (P := X.prog) (w := X.w) (base := X.base) T).ex
  obtain ⟨f2, fd2, F2, m2, k2, b2⟩ := (dn_handle_of (P := X.prog) (w := X.w) (base := X.base) T).ex
  refine we_gref g_number_of m1 ?_
  w_dflts xx
  refine we_gref g_handle_of m2 ?_
  w_dflts xx
  refine ⟨sz (Nat.le_of_ble_eq_true rfl), fun l0 H1 hn e => ?_⟩
  replace hO := hO.newE hn e
  w_dflts xx
  have hd' : Dp X.K H1 v d := hd.more hn e
  have hl : ∀ σ : St, σ.length = 4 → 3 < σ.length := fun σ h => by omega
  rcases hw with rfl | rfl
  · refine o_subL hO (by w_dflts mm) (v := .ref f1) (by rfl) ?_
    refine ⟨f1, fd1, _, _, _, rfl, F1, by decide, k1, b1, ?_⟩
    w_dflts xx
    rcases h with ⟨a, m, r, la, rn, rfl, ma, h1, h2, h3, h4, q⟩ | ⟨sd, hsd, hf, q⟩
    · refine ⟨_, _, d, rfl, hd', .inl ⟨a, m, r, la, rn, rfl, SqT.of (hO.tp (List.mem_cons_of_mem _ ma)), h1, h2, h3, h4, fun en => ?_, fun x c es => ?_⟩⟩
      · refine caught T B.hr (by decide) n_e g__law_which (by exact (show (3 : Nat) < 4 by decide)) .NoHandle hO.drop fun t H' hO' => q _ _ ?_
        have : askD 0 m r d = refD .NoHandle := by unfold askD; rw [if_pos rfl, en]
        rw [this]
        exact ref_dt hO'
      · refine q _ _ (hO.drop.addD ?_)
        have : askD 0 m r d = .int (c * m + x) := by unfold askD; rw [if_pos rfl, es]
        rw [this]
        exact .int _
    · exact ⟨_, _, d, rfl, hd', .inr ⟨sd, hsd.more hn e, hf, caught T B.hr (by decide) n_e g__law_which (by exact (show (3 : Nat) < 4 by decide)) .NoSettings hO.drop fun t H' hO' => q _ _ (ref_dt hO')⟩⟩
  · refine o_subL hO (by w_dflts mm) (v := .ref f2) (by rfl) ?_
    refine ⟨f2, fd2, _, _, _, rfl, F2, by decide, k2, b2, ?_⟩
    w_dflts xx
    rcases h with ⟨a, m, r, la, rn, rfl, ma, h1, h2, h3, h4, q⟩ | ⟨sd, hsd, hf, q⟩
    · refine ⟨_, _, d, rfl, hd', .inl ⟨a, m, r, la, rn, rfl, SqT.of (hO.tp (List.mem_cons_of_mem _ ma)), h1, h2, h3, h4, fun en => ?_, fun k ek es p H' hn2 e2 => ?_⟩⟩
      · refine caught T B.hr (by decide) n_e g__law_which (by exact (show (3 : Nat) < 4 by decide)) .NoNumber hO.drop fun t H' hO' => q _ _ ?_
        have : askD 1 m r d = refD .NoNumber := by
          unfold askD
          rw [if_neg (by decide)]
          cases d with
          | int k => dsimp only; rw [en, if_neg Bool.false_ne_true]
          | _ => rfl
        rw [this]
        exact ref_dt hO'
      · refine q _ _ ?_
        have : askD 1 m r d = .tuple [.int (k % m), .int (k / m)] := by
          unfold askD
          rw [if_neg (by decide), ek]
          dsimp only
          rw [← ek, es, if_pos rfl]
        rw [this]
        exact (hO.drop.newTE hn2 e2).tpD (.cons (.int _) (.cons (.int _) .nil))
    · exact ⟨_, _, d, rfl, hd', .inr ⟨sd, hsd.more hn e, hf, caught T B.hr (by decide) n_e g__law_which (by exact (show (3 : Nat) < 4 by decide)) .NoSettings hO.drop fun t H' hO' => q _ _ (ref_dt hO')⟩⟩
theorem askD_num {m r x c : Int} (hx : 0 ≤ x ∧ x < m) (hc : 0 ≤ c ∧ c < r) : askD 0 m r (.tuple [.int x, .int c]) = .int (c * m + x) := by
  unfold askD
  rw [if_pos rfl]
  have : asH m r (.tuple [.int x, .int c]) = some (x, c) := by
    unfold asH
    dsimp only
    rw [if_pos (by omega)]
  rw [this]
theorem askD_han {m r k : Int} (h1 : 0 ≤ k) (h2 : k < m * r) : askD 1 m r (.int k) = .tuple [.int (k % m), .int (k / m)] := by
  unfold askD
  rw [if_neg (by decide)]
  dsimp only
  rw [if_pos (show isWhole (.int k) 0 (m * r - 1) = true by show (decide (0 ≤ k) && decide (k ≤ m * r - 1)) = true; rw [decide_eq_true h1, decide_eq_true (by omega)]; rfl)]
theorem num_lt {m r x c : Int} (hx : 0 ≤ x ∧ x < m) (hc : 0 ≤ c ∧ c < r) : 0 ≤ c * m + x ∧ c * m + x < m * r := by
  have h1 : 0 ≤ c * m := Int.mul_nonneg hc.1 (by omega)
  have h2 : (c + 1) * m ≤ r * m := Int.mul_le_mul_of_nonneg_right (by omega) (by omega)
  rw [Int.add_mul, Int.one_mul, Int.mul_comm r m] at h2
  omega
theorem num_back {m x c : Int} (hx : 0 ≤ x ∧ x < m) : (c * m + x) % m = x ∧ (c * m + x) / m = c := by
  constructor
  · rw [Int.add_comm, Int.add_mul_emod_self_right]
    exact Int.emod_eq_of_lt hx.1 hx.2
  · rw [Int.add_comm, Int.add_mul_ediv_right _ _ (by omega), Int.ediv_eq_zero_of_lt hx.1 hx.2, Int.zero_add]
theorem div_rng {m r k : Int} (hm : 0 < m) (h1 : 0 ≤ k) (h2 : k < m * r) : (0 ≤ k % m ∧ k % m < m) ∧ (0 ≤ k / m ∧ k / m < r) := by
  refine ⟨⟨Int.emod_nonneg _ (by omega), Int.emod_lt_of_pos _ hm⟩, Int.ediv_nonneg h1 (by omega), ?_⟩
  exact Int.ediv_lt_of_lt_mul hm (by rw [Int.mul_comm]; exact h2)
theorem law_ok (T : Txt K mg C) {f : Addr} {fd : FuncData} (F : Fun K "law" "law" s_law f fd) : FnOk P w K mg base (L2N.CX P w) 7 f fd ["script"] (spLaw K) := by
  refine def_ok F sc_law (fun vs H Q E ⟨_, _, h, _⟩ => by rw [h] <;> rfl) fun X e1 e2 e3 e4 e5 B vs H Q E tk h => ?_
  subst e1 e2 e3 e4 e5
  obtain ⟨a, ns, rfl, hs, hlen, q⟩ := h
  obtain ⟨n_script, n_town, n_settings, n_handle, n_number, n_most, l_script, l_town, l_settings, l_handle, l_number, l_most, g__law_settings, g__law_draw, g__law_ask, g__law_bad_handle, g__law_pick, g_range, o_what, -⟩ := nm_law T B.nf
  have nd := B.nd
  have hO : Own H [sq X.K a (iv ns)] := Own.one hs
  w_dflts xx
  refine ⟨by decide, fun t H1 hn e => ?_⟩
  have hO : Own H1 [town t 0, sq X.K a (iv ns)] := hO.newE hn e
  w_dflts xx
  refine we_call tk B.hr g__law_settings (dn_lawset T) (by decide) ?_
  w_dflts xx
  refine ⟨a, t, ns, 0, _, rfl, Own.pq (by w_dflts pq) hO, by decide, fun s m r la rn H2 hm hr hO => ?_⟩
  obtain ⟨m1, m2⟩ := rngN hm
  obtain ⟨r1, r2⟩ := rngR hr
  w_dflts xx
  refine we_call tk B.hr g__law_draw (dn_draw T) (by decide) ?_
  w_dflts xx
  refine o_subT hO (by w_dflts mm) (v := .int m) (by rfl) ?_
  w_dflts xx
  refine ⟨a, t, ns, _, _, _, rfl, Own.pq (by w_dflts pq) hO, by decide, by omega, fun x H3 x0 x1 hO => ?_⟩
  w_dflts xx
  refine we_call tk B.hr g__law_draw (dn_draw T) (by decide) ?_
  w_dflts xx
  refine o_subT hO (by w_dflts mm) (v := .int r) (by rfl) ?_
  w_dflts xx
  refine ⟨a, t, ns, _, _, _, rfl, Own.pq (by w_dflts pq) hO, by decide, by omega, fun c H4 c0 c1 hO => ?_⟩
  w_dflts xx
  refine ⟨sz (Nat.le_of_ble_eq_true rfl), fun th H5 hn e => ?_⟩
  replace hO := hO.newTE hn e
  w_dflts xx
  refine we_call tk B.hr g__law_ask (dn_ask T) (by decide) ?_
  w_dflts xx
  refine ⟨0, _, _, .tuple [.int x, .int c], _, rfl, .inl rfl, hO, .tup (SqT.of (hO.tp (by w_dflts mm))) (.cons (.int _) (.cons (.int _) .nil)), .inl ⟨s, m, r, la, rn, rfl, by w_dflts mm, m1, m2, r1, r2, fun y H6 hO => ?_⟩⟩
  rw [askD_num ⟨x0, x1⟩ ⟨c0, c1⟩] at hO
  cases hO.dt (by w_dflts mm)
  replace hO := hO.drop
  w_dflts xx
  refine o_subT hO (by w_dflts mm) (v := .int m) (by rfl) ?_
  w_dflts xx
  refine o_subT hO (by w_dflts mm) (v := .int c) (by rfl) ?_
  refine wop_mul (.inl ⟨by omega, by omega⟩) ?_
  w_dflts xx
  refine o_subT hO (by w_dflts mm) (v := .int x) (by rfl) ?_
  w_dflts xx
  refine ite_f (by rw [Int.mul_comm m c]; simp) ?_
  w_dflts xx
  refine we_call tk B.hr g__law_ask (dn_ask T) (by decide) ?_
  w_dflts xx
  refine ⟨1, _, _, .int (c * m + x), _, rfl, .inr rfl, hO, .int _, .inl ⟨s, m, r, la, rn, rfl, by w_dflts mm, m1, m2, r1, r2, fun y H7 hO => ?_⟩⟩
  obtain ⟨b1, b2⟩ := num_lt ⟨x0, x1⟩ ⟨c0, c1⟩
  rw [askD_han b1 b2, (num_back ⟨x0, x1⟩).1, (num_back ⟨x0, x1⟩).2] at hO
  w_dflts xx
  refine wop_neP (j := 1) B.hr (hO.dp (by w_dflts mm)) (.tup (SqT.of (hO.tp (by w_dflts mm))) (.cons (.int _) (.cons (.int _) .nil))) rfl rfl (by decide) fun b hb => ?_
  have hbf : b = false := by
    cases b with
    | false => rfl
    | true => exact absurd rfl (hb.mp rfl)
  subst hbf
  replace hO := hO.drop
  w_dflts xx
  refine o_subT hO (by w_dflts mm) (v := .int m) (by rfl) ?_
  w_dflts xx
  refine o_subT hO (by w_dflts mm) (v := .int r) (by rfl) ?_
  refine wop_mul (.inl ⟨by omega, by omega⟩) ?_
  w_dflts xx
  have mr : 0 < m * r := Int.mul_pos (by omega) (by omega)
  refine ws_forL B.po B.calm nd l_number ?_
  w_dflts xx
  refine we_call tk B.hr g__law_draw (dn_draw T) (by decide) ?_
  w_dflts xx
  refine ⟨a, t, ns, _, _, _, rfl, Own.pq (by w_dflts pq) hO, by decide, mr, fun k H8 k0 k1 hO => ?_⟩
  w_dflts xx
  refine ⟨sz (Nat.le_of_ble_eq_true rfl), fun ln H9 hn e => ?_⟩
  replace hO := hO.newE hn e
  refine ⟨ln, iv [0, m * r - 1, k], rfl, SqL.of (hO.pt (by w_dflts mz)), fun j σ H => ∃ v w, σ = [some (.ref a), some (.ref t), some (.ref s), v, w, some (.int (m * r)), none] ∧ Own H (pt ln (.lst (iv [0, m * r - 1, k])) :: [sq X.K a (iv ns), town t 7, tp s (setV m r la rn)]), ⟨_, _, rfl, hO.sub (by w_dflts sb)⟩, ?_, ?_, ?_⟩
  · rintro j σ H - ⟨v, w, rfl, hO⟩
    exact SqL.of (hO.pt (by w_dflts mm))
  · rintro j y σ H hj ⟨v, w, rfl, hO⟩
    obtain ⟨z, rfl, z0, z1⟩ : ∃ z, y = .int z ∧ 0 ≤ z ∧ z < m * r := by
      obtain ⟨z, rfl, hz⟩ := mem_iv (List.mem_of_getElem? hj)
      simp only [List.mem_cons, List.not_mem_nil, or_false] at hz
      exact ⟨z, rfl, by omega, by omega⟩
    obtain ⟨g1, g2⟩ := div_rng (show 0 < m by omega) z0 z1
    w_dflts xx
    refine we_call tk B.hr g__law_ask (dn_ask T) (by decide) ?_
    w_dflts xx
    refine ⟨1, _, _, .int z, _, rfl, .inr rfl, hO, .int _, .inl ⟨s, m, r, la, rn, rfl, by w_dflts mm, m1, m2, r1, r2, fun y Ha hO => ?_⟩⟩
    rw [askD_han z0 z1] at hO
    w_dflts xx
    refine we_call tk B.hr g__law_ask (dn_ask T) (by decide) ?_
    w_dflts xx
    refine ⟨0, _, _, _, _, rfl, .inl rfl, hO, hO.dp (by w_dflts mm), .inl ⟨s, m, r, la, rn, rfl, by w_dflts mm, m1, m2, r1, r2, fun y2 Hb hO => ?_⟩⟩
    rw [askD_num g1 g2] at hO
    cases hO.dt (by w_dflts mm)
    replace hO := hO.drop
    w_dflts xx
    refine ite_f (by
      have : z / m * m + z % m = z := by rw [Int.mul_comm]; exact Int.mul_ediv_add_emod z m
      rw [this]; simp) ?_
    w_dflts xx
    refine o_subT hO (by w_dflts mm) (v := .int m) (by rfl) ?_
    refine wop_mod (by omega) ?_
    w_dflts xx
    refine o_subT hO (by w_dflts mm) (v := .int m) (by rfl) ?_
    refine wop_fdiv (by omega) (by omega) ?_
    w_dflts xx
    refine ⟨sz (Nat.le_of_ble_eq_true rfl), fun t2 Hc hn e => ?_⟩
    replace hO := hO.newTE hn e
    refine wop_neP (j := 1) B.hr (hO.dp (by w_dflts mm)) (.tup (SqT.of (hO.tp (by w_dflts mm))) (.cons (.int _) (.cons (.int _) .nil))) rfl rfl (by decide) fun b hb => ?_
    have hbf : b = false := by
      cases b with
      | false => rfl
      | true => exact absurd rfl (hb.mp rfl)
    subst hbf
    w_dflts xx
    exact ⟨_, _, rfl, hO.sub (by w_dflts sb)⟩
  · rintro σ H ⟨v, w, rfl, hO⟩
    w_dflts xx
    refine we_call tk B.hr g__law_ask (dn_ask T) (by decide) ?_
    w_dflts xx
    refine we_call tk B.hr g__law_bad_handle (dn_badh T) (by decide) ?_
    w_dflts xx
    refine ⟨a, t, s, ns, 7, m, r, la, rn, _, rfl, Own.pq (by w_dflts pq) hO, by w_dflts mm, by decide, fun bv bd Hd hbd hO => ?_⟩
    w_dflts xx
    refine ⟨0, _, _, bd, _, rfl, .inl rfl, hO, hO.dl (by w_dflts mm), .inl ⟨s, m, r, la, rn, rfl, by w_dflts mm, m1, m2, r1, r2, fun y2 He hO => ?_⟩⟩
    have eb : askD 0 m r bd = refD .NoHandle := by
      unfold askD
      rw [if_pos rfl, asH_none hbd]
    rw [eb] at hO
    w_dflts xx
    refine ⟨sz (Nat.le_of_ble_eq_true rfl), fun t2 Hf hn e => ?_⟩
    replace hO := hO.newTE hn e
    refine wop_neP (j := 1) (e := refD .NoHandle) B.hr (hO.dp (by w_dflts mm)) (.tup (SqT.of (hO.tp (by w_dflts mz))) (.cons (.str _) (.cons (.int _) .nil))) (pl_ref _) (pl_ref _) (by decide) fun b hb => ?_
    have hbf : b = false := by
      cases b with
      | false => rfl
      | true => exact absurd rfl (hb.mp rfl)
    subst hbf
    replace hO := hO.sub (G := [sq X.K a (iv ns), town t 8, tp s (setV m r la rn)]) (by w_dflts sb)
    w_dflts xx
    refine we_call tk B.hr g__law_ask (dn_ask T) (by decide) ?_
    w_dflts xx
    refine we_call tk B.hr g__law_pick (dn_pick T) (by decide) ?_
    w_dflts xx
    refine ⟨sz (Nat.le_of_ble_eq_true rfl), fun l5 Hg hn e => ?_⟩
    replace hO := hO.newE hn e
    w_dflts xx
    refine ⟨a, t, l5, ns, 8, _, _, rfl, Own.pq (by w_dflts pq) hO, by decide, by exact Nat.zero_lt_succ _, fun pv Hh hpv hO => ?_⟩
    obtain ⟨pd, hpd, hnp⟩ : ∃ pd, Dt Hh pv pd ∧ askD 1 m r pd = refD .NoNumber := by
      simp only [List.mem_cons, List.not_mem_nil, or_false] at hpv
      have e0 : ∀ z : Int, ¬ (0 ≤ z ∧ z < m * r) → askD 1 m r (.int z) = refD .NoNumber := fun z hz => by
        unfold askD
        rw [if_neg (by decide)]
        dsimp only
        rw [if_neg]
        show ¬ (decide (0 ≤ z) && decide (z ≤ m * r - 1)) = true
        rw [Bool.and_eq_true, decide_eq_true_eq, decide_eq_true_eq]
        omega
      rcases hpv with rfl | rfl | rfl | rfl | rfl
      · exact ⟨_, .int _, e0 _ (by omega)⟩
      · exact ⟨_, .int _, e0 _ (by omega)⟩
      · exact ⟨_, .non, rfl⟩
      · exact ⟨_, .bl _, rfl⟩
      · exact ⟨_, .str _, rfl⟩
    w_dflts xx
    refine ⟨1, _, _, pd, _, rfl, .inr rfl, hO, hpd.dp, .inl ⟨s, m, r, la, rn, rfl, by w_dflts mm, m1, m2, r1, r2, fun y2 Hi hO => ?_⟩⟩
    rw [hnp] at hO
    w_dflts xx
    refine ⟨sz (Nat.le_of_ble_eq_true rfl), fun t2 Hj hn e => ?_⟩
    replace hO := hO.newTE hn e
    refine wop_neP (j := 1) (e := refD .NoNumber) B.hr (hO.dp (by w_dflts mm)) (.tup (SqT.of (hO.tp (by w_dflts mz))) (.cons (.str _) (.cons (.int _) .nil))) (pl_ref _) (pl_ref _) (by decide) fun b hb => ?_
    have hbf : b = false := by
      cases b with
      | false => rfl
      | true => exact absurd rfl (hb.mp rfl)
    subst hbf
    w_dflts xx
    refine we_lcR B.calm nd o_what.at' (B.nf.blk (by decide +kernel)) rfl g_range ?_
    unfold LcR
    w_dflts xx
    refine ⟨by decide, by decide, fun dl Hk hn e => ?_⟩
    replace hO := hO.newE hn e
    refine ⟨fun j H => ∃ vs, Own H (pt dl (.lst vs) :: dts vs (List.replicate j (refD .NoSettings)) :: [sq X.K a (iv ns)]) ∧ vs.length = j, ⟨[], ((hO.sub (G := pt dl (.lst []) :: [sq X.K a (iv ns)]) (by w_dflts sb)).addDs .nil).sub (by w_dflts sb), rfl⟩, ?_, ?_⟩
    · rintro j H hj ⟨vs, hO, hv⟩ s1 Hs C1 cl fp
      have hj2 : j = 0 ∨ j = 1 := by
        have : j < 2 := hj
        omega
      refine we_call (takesB s1 Hs C1 cl fp) B.hr (by w_dflts nm) (dn_ask T) (by decide) ?_
      w_dflts xx
      refine ⟨_, _, _, .none, _, rfl, by omega, hO, .non, .inr ⟨.none, .non, rfl, fun y H2 hO => ?_⟩⟩
      refine ⟨_, hO.pt (by w_dflts mm), szl (by omega), fun H3 e3 => ?_⟩
      have hd := DtAll.snoc (hO.dts (by w_dflts mm)) (hO.dt (by w_dflts mm))
      replace hO := hO.addDs hd
      replace hO := hO.wrE e3 (by w_dflts mm) ntL (by w_dflts rp)
      rw [← List.replicate_succ'] at hO
      exact ⟨_, hO.sub (by w_dflts sb), by simp [hv]⟩
    · rintro H ⟨vs, hO, hv⟩
      w_dflts xx
      refine ⟨sz (Nat.le_of_ble_eq_true rfl), fun t2 H2 hn e => ?_⟩
      replace hO := hO.newTE hn e
      w_dflts xx
      refine ⟨sz (Nat.le_of_ble_eq_true rfl), fun l2 H3 hn e => ?_⟩
      replace hO := hO.newE hn e
      w_dflts xx
      refine of_op op_rep ⟨l2, 2, _, rfl, rfl, hO.pt (by w_dflts mm), by decide, by decide, sz (Nat.le_of_ble_eq_true rfl), fun l3 hn => ?_⟩
      replace hO := hO.new (o := .lst [.ref t2, .ref t2]) hn
      have hr2 : Dt _ (.ref t2) (refD .NoSettings) := .tup (hO.tp (by w_dflts mz)) (.cons (.str _) (.cons (.int _) .nil))
      refine wop_eqP (j := 2) (d := .list [refD .NoSettings, refD .NoSettings]) (e := .list [refD .NoSettings, refD .NoSettings]) B.hr (.lst (SqL.of (hO.pt (by w_dflts mm))) (hO.dts (by w_dflts mz)).dp) (.lst (SqL.of (hO.pt (by w_dflts mm))) (DtAll.cons hr2 (.cons hr2 .nil)).dp)
        (by decide +kernel) (by decide +kernel) (by decide) fun b hb => ?_
      rw [hb.mpr rfl]
      exact q _
end
end Sh
namespace Sh
theorem all_mk {P : Program} {w : World} {K : PySem.W.Frag} {h : Heap} {mg : Str → Option Value} {fa : Addr} (X : K.In h) (G : h.Ns mainGlobals mg) (hfa : mg "law" = some (.ref fa))
    {t_SLOTS : Tok}
    {t_ROUNDS : Tok}
    {a_ORDERS : Addr} {t_ORDERS0 t_ORDERS1 : Tok} {o_ORDERS : Option Addr} {n_ORDERS : Nat} {s_ORDERS : Array (Option Value)}
    {a_ENDS : Addr} {t_ENDS0 t_ENDS1 : Tok} {o_ENDS : Option Addr} {n_ENDS : Nat} {s_ENDS : Array (Option Value)}
    {c_HandError : Addr}
    {c_NoSettings : Addr}
    {c_NoWorth : Addr}
    {c_NoHandle : Addr}
    {c_Stale : Addr}
    {c_Full : Addr}
    {c_NoPlace : Addr}
    {c_NoList : Addr}
    {c_NoNumber : Addr}
    {c_NotEmpty : Addr}
    {c_NoDeed : Addr}
    {f_is_whole : Addr} {oc_is_whole kV_is_whole dc_is_whole pm_is_whole cd_is_whole ct_is_whole : Value} {od_is_whole an_is_whole : Option Addr} {sl_is_whole : Array (Option Value)}
    {f_are_settings : Addr} {oc_are_settings kV_are_settings dc_are_settings pm_are_settings cd_are_settings ct_are_settings : Value} {od_are_settings an_are_settings : Option Addr} {sl_are_settings : Array (Option Value)}
    {f_checked : Addr} {oc_checked kV_checked dc_checked pm_checked cd_checked ct_checked : Value} {od_checked an_checked : Option Addr} {sl_checked : Array (Option Value)}
    {f_is_handle : Addr} {oc_is_handle kV_is_handle dc_is_handle pm_is_handle cd_is_handle ct_is_handle : Value} {od_is_handle an_is_handle : Option Addr} {sl_is_handle : Array (Option Value)}
    {f_need_handle : Addr} {oc_need_handle kV_need_handle dc_need_handle pm_need_handle cd_need_handle ct_need_handle : Value} {od_need_handle an_need_handle : Option Addr} {sl_need_handle : Array (Option Value)}
    {f_number_of : Addr} {oc_number_of kV_number_of dc_number_of pm_number_of cd_number_of ct_number_of : Value} {od_number_of an_number_of : Option Addr} {sl_number_of : Array (Option Value)}
    {f_handle_of : Addr} {oc_handle_of kV_handle_of dc_handle_of pm_handle_of cd_handle_of ct_handle_of : Value} {od_handle_of an_handle_of : Option Addr} {sl_handle_of : Array (Option Value)}
    {f__law_cell_at : Addr} {oc__law_cell_at kV__law_cell_at dc__law_cell_at pm__law_cell_at cd__law_cell_at ct__law_cell_at : Value} {od__law_cell_at an__law_cell_at : Option Addr} {sl__law_cell_at : Array (Option Value)}
    {f__law_mixed : Addr} {oc__law_mixed kV__law_mixed dc__law_mixed pm__law_mixed cd__law_mixed ct__law_mixed : Value} {od__law_mixed an__law_mixed : Option Addr} {sl__law_mixed : Array (Option Value)}
    {f__law_draw : Addr} {oc__law_draw kV__law_draw dc__law_draw pm__law_draw cd__law_draw ct__law_draw : Value} {od__law_draw an__law_draw : Option Addr} {sl__law_draw : Array (Option Value)}
    {f__law_pick : Addr} {oc__law_pick kV__law_pick dc__law_pick pm__law_pick cd__law_pick ct__law_pick : Value} {od__law_pick an__law_pick : Option Addr} {sl__law_pick : Array (Option Value)}
    {f__law_settings : Addr} {oc__law_settings kV__law_settings dc__law_settings pm__law_settings cd__law_settings ct__law_settings : Value} {od__law_settings an__law_settings : Option Addr} {sl__law_settings : Array (Option Value)}
    {f__law_bad_handle : Addr} {oc__law_bad_handle kV__law_bad_handle dc__law_bad_handle pm__law_bad_handle cd__law_bad_handle ct__law_bad_handle : Value} {od__law_bad_handle an__law_bad_handle : Option Addr} {sl__law_bad_handle : Array (Option Value)}
    {f__law_which : Addr} {oc__law_which kV__law_which dc__law_which pm__law_which cd__law_which ct__law_which : Value} {od__law_which an__law_which : Option Addr} {sl__law_which : Array (Option Value)}
    {f__law_ask : Addr} {oc__law_ask kV__law_ask dc__law_ask pm__law_ask cd__law_ask ct__law_ask : Value} {od__law_ask an__law_ask : Option Addr} {sl__law_ask : Array (Option Value)}
    {f_law : Addr} {oc_law kV_law dc_law pm_law cd_law ct_law : Value} {od_law an_law : Option Addr} {sl_law : Array (Option Value)}
    (z_isinstance : PySem.W.nsIn K mainGlobals "isinstance" = some none)
    (z_int : PySem.W.nsIn K mainGlobals "int" = some none)
    (z_bool : PySem.W.nsIn K mainGlobals "bool" = some none)
    (z_tuple : PySem.W.nsIn K mainGlobals "tuple" = some none)
    (z_len : PySem.W.nsIn K mainGlobals "len" = some none)
    (z_str : PySem.W.nsIn K mainGlobals "str" = some none)
    (z_ValueError : PySem.W.nsIn K mainGlobals "ValueError" = some none)
    (z_range : PySem.W.nsIn K mainGlobals "range" = some none)
    (q_SLOTS : PySem.W.nsIn K mainGlobals "SLOTS" = some (some (.int 60 t_SLOTS)))
    (q_ROUNDS : PySem.W.nsIn K mainGlobals "ROUNDS" = some (some (.int 1000 t_ROUNDS)))
    (q_ORDERS : PySem.W.nsIn K mainGlobals "ORDERS" = some (some (.ref a_ORDERS)))
    (l_ORDERS : K.lookup a_ORDERS = some ⟨.type "tuple", o_ORDERS, .seq #[.str "first" t_ORDERS0, .str "last" t_ORDERS1] n_ORDERS, s_ORDERS⟩)
    (q_ENDS : PySem.W.nsIn K mainGlobals "ENDS" = some (some (.ref a_ENDS)))
    (l_ENDS : K.lookup a_ENDS = some ⟨.type "tuple", o_ENDS, .seq #[.str "worn" t_ENDS0, .str "round" t_ENDS1] n_ENDS, s_ENDS⟩)
    (xa_HandError : PySem.W.nsIn K mainGlobals "HandError" = some (some (.ref c_HandError)))
    (xe_HandError : PySem.W.excIn K c_HandError [.type "ValueError", .type "Exception", .type "BaseException", .type "object"] "ValueError.__new__" = true)
    (xk_HandError : PySem.W.keepIn K (.ref c_HandError) = true)
    (xb_HandError : PySem.W.subIn K (.ref c_HandError) (.type "BaseException") = some true)
    (xt_HandError : PySem.W.typeIn K (.ref c_HandError) = some (.type "type"))
    (xa_NoSettings : PySem.W.nsIn K mainGlobals "NoSettings" = some (some (.ref c_NoSettings)))
    (xe_NoSettings : PySem.W.excIn K c_NoSettings [.type "ValueError", .type "Exception", .type "BaseException", .type "object"] "ValueError.__new__" = true)
    (xk_NoSettings : PySem.W.keepIn K (.ref c_NoSettings) = true)
    (xb_NoSettings : PySem.W.subIn K (.ref c_NoSettings) (.type "BaseException") = some true)
    (xt_NoSettings : PySem.W.typeIn K (.ref c_NoSettings) = some (.type "type"))
    (xa_NoWorth : PySem.W.nsIn K mainGlobals "NoWorth" = some (some (.ref c_NoWorth)))
    (xe_NoWorth : PySem.W.excIn K c_NoWorth [.type "ValueError", .type "Exception", .type "BaseException", .type "object"] "ValueError.__new__" = true)
    (xk_NoWorth : PySem.W.keepIn K (.ref c_NoWorth) = true)
    (xb_NoWorth : PySem.W.subIn K (.ref c_NoWorth) (.type "BaseException") = some true)
    (xt_NoWorth : PySem.W.typeIn K (.ref c_NoWorth) = some (.type "type"))
    (xa_NoHandle : PySem.W.nsIn K mainGlobals "NoHandle" = some (some (.ref c_NoHandle)))
    (xe_NoHandle : PySem.W.excIn K c_NoHandle [.type "ValueError", .type "Exception", .type "BaseException", .type "object"] "ValueError.__new__" = true)
    (xk_NoHandle : PySem.W.keepIn K (.ref c_NoHandle) = true)
    (xb_NoHandle : PySem.W.subIn K (.ref c_NoHandle) (.type "BaseException") = some true)
    (xt_NoHandle : PySem.W.typeIn K (.ref c_NoHandle) = some (.type "type"))
    (xa_Stale : PySem.W.nsIn K mainGlobals "Stale" = some (some (.ref c_Stale)))
    (xe_Stale : PySem.W.excIn K c_Stale [.type "ValueError", .type "Exception", .type "BaseException", .type "object"] "ValueError.__new__" = true)
    (xk_Stale : PySem.W.keepIn K (.ref c_Stale) = true)
    (xb_Stale : PySem.W.subIn K (.ref c_Stale) (.type "BaseException") = some true)
    (xt_Stale : PySem.W.typeIn K (.ref c_Stale) = some (.type "type"))
    (xa_Full : PySem.W.nsIn K mainGlobals "Full" = some (some (.ref c_Full)))
    (xe_Full : PySem.W.excIn K c_Full [.type "ValueError", .type "Exception", .type "BaseException", .type "object"] "ValueError.__new__" = true)
    (xk_Full : PySem.W.keepIn K (.ref c_Full) = true)
    (xb_Full : PySem.W.subIn K (.ref c_Full) (.type "BaseException") = some true)
    (xt_Full : PySem.W.typeIn K (.ref c_Full) = some (.type "type"))
    (xa_NoPlace : PySem.W.nsIn K mainGlobals "NoPlace" = some (some (.ref c_NoPlace)))
    (xe_NoPlace : PySem.W.excIn K c_NoPlace [.type "ValueError", .type "Exception", .type "BaseException", .type "object"] "ValueError.__new__" = true)
    (xk_NoPlace : PySem.W.keepIn K (.ref c_NoPlace) = true)
    (xb_NoPlace : PySem.W.subIn K (.ref c_NoPlace) (.type "BaseException") = some true)
    (xt_NoPlace : PySem.W.typeIn K (.ref c_NoPlace) = some (.type "type"))
    (xa_NoList : PySem.W.nsIn K mainGlobals "NoList" = some (some (.ref c_NoList)))
    (xe_NoList : PySem.W.excIn K c_NoList [.type "ValueError", .type "Exception", .type "BaseException", .type "object"] "ValueError.__new__" = true)
    (xk_NoList : PySem.W.keepIn K (.ref c_NoList) = true)
    (xb_NoList : PySem.W.subIn K (.ref c_NoList) (.type "BaseException") = some true)
    (xt_NoList : PySem.W.typeIn K (.ref c_NoList) = some (.type "type"))
    (xa_NoNumber : PySem.W.nsIn K mainGlobals "NoNumber" = some (some (.ref c_NoNumber)))
    (xe_NoNumber : PySem.W.excIn K c_NoNumber [.type "ValueError", .type "Exception", .type "BaseException", .type "object"] "ValueError.__new__" = true)
    (xk_NoNumber : PySem.W.keepIn K (.ref c_NoNumber) = true)
    (xb_NoNumber : PySem.W.subIn K (.ref c_NoNumber) (.type "BaseException") = some true)
    (xt_NoNumber : PySem.W.typeIn K (.ref c_NoNumber) = some (.type "type"))
    (xa_NotEmpty : PySem.W.nsIn K mainGlobals "NotEmpty" = some (some (.ref c_NotEmpty)))
    (xe_NotEmpty : PySem.W.excIn K c_NotEmpty [.type "ValueError", .type "Exception", .type "BaseException", .type "object"] "ValueError.__new__" = true)
    (xk_NotEmpty : PySem.W.keepIn K (.ref c_NotEmpty) = true)
    (xb_NotEmpty : PySem.W.subIn K (.ref c_NotEmpty) (.type "BaseException") = some true)
    (xt_NotEmpty : PySem.W.typeIn K (.ref c_NotEmpty) = some (.type "type"))
    (xa_NoDeed : PySem.W.nsIn K mainGlobals "NoDeed" = some (some (.ref c_NoDeed)))
    (xe_NoDeed : PySem.W.excIn K c_NoDeed [.type "ValueError", .type "Exception", .type "BaseException", .type "object"] "ValueError.__new__" = true)
    (xk_NoDeed : PySem.W.keepIn K (.ref c_NoDeed) = true)
    (xb_NoDeed : PySem.W.subIn K (.ref c_NoDeed) (.type "BaseException") = some true)
    (xt_NoDeed : PySem.W.typeIn K (.ref c_NoDeed) = some (.type "type"))
    (wn : PySem.W.specialIn K (.builtin "object.__class__") "__get__" = some (some (.builtin "getset_descriptor.__get__")))
    (wd_HandError : PySem.W.hasDictIn K c_HandError = true)
    (wt : PySem.W.takesIn K (.builtin "object.__class__") = some true)
    (wg_NoSettings : PySem.W.findIn K (.ref c_NoSettings) "__getattribute__" = some (some (.builtin "BaseException.__getattribute__")))
    (wk_NoSettings : PySem.W.findIn K (.ref c_NoSettings) "__getattr__" = some none)
    (wd_NoSettings : PySem.W.hasDictIn K c_NoSettings = true)
    (wa_NoSettings : PySem.W.findIn K (.ref c_NoSettings) "__class__" = some (some (.builtin "object.__class__")))
    (wm_NoSettings : PySem.W.mroIn K c_NoSettings (.type "object") = some true)
    (wv_NoSettings : PySem.W.subIn K (.ref c_NoSettings) (.type "ValueError") = some true)
    (wh_NoSettings : PySem.W.subIn K (.ref c_NoSettings) (.ref c_HandError) = some true)
    (wq_NoSettings_NoSettings : PySem.W.subIn K (.ref c_NoSettings) (.ref c_NoSettings) = some true)
    (wq_NoSettings_NoWorth : PySem.W.subIn K (.ref c_NoSettings) (.ref c_NoWorth) = some false)
    (wq_NoSettings_NoHandle : PySem.W.subIn K (.ref c_NoSettings) (.ref c_NoHandle) = some false)
    (wq_NoSettings_Stale : PySem.W.subIn K (.ref c_NoSettings) (.ref c_Stale) = some false)
    (wq_NoSettings_Full : PySem.W.subIn K (.ref c_NoSettings) (.ref c_Full) = some false)
    (wq_NoSettings_NoPlace : PySem.W.subIn K (.ref c_NoSettings) (.ref c_NoPlace) = some false)
    (wq_NoSettings_NoList : PySem.W.subIn K (.ref c_NoSettings) (.ref c_NoList) = some false)
    (wq_NoSettings_NoNumber : PySem.W.subIn K (.ref c_NoSettings) (.ref c_NoNumber) = some false)
    (wq_NoSettings_NotEmpty : PySem.W.subIn K (.ref c_NoSettings) (.ref c_NotEmpty) = some false)
    (wq_NoSettings_NoDeed : PySem.W.subIn K (.ref c_NoSettings) (.ref c_NoDeed) = some false)
    (wg_NoWorth : PySem.W.findIn K (.ref c_NoWorth) "__getattribute__" = some (some (.builtin "BaseException.__getattribute__")))
    (wk_NoWorth : PySem.W.findIn K (.ref c_NoWorth) "__getattr__" = some none)
    (wd_NoWorth : PySem.W.hasDictIn K c_NoWorth = true)
    (wa_NoWorth : PySem.W.findIn K (.ref c_NoWorth) "__class__" = some (some (.builtin "object.__class__")))
    (wm_NoWorth : PySem.W.mroIn K c_NoWorth (.type "object") = some true)
    (wv_NoWorth : PySem.W.subIn K (.ref c_NoWorth) (.type "ValueError") = some true)
    (wh_NoWorth : PySem.W.subIn K (.ref c_NoWorth) (.ref c_HandError) = some true)
    (wq_NoWorth_NoSettings : PySem.W.subIn K (.ref c_NoWorth) (.ref c_NoSettings) = some false)
    (wq_NoWorth_NoWorth : PySem.W.subIn K (.ref c_NoWorth) (.ref c_NoWorth) = some true)
    (wq_NoWorth_NoHandle : PySem.W.subIn K (.ref c_NoWorth) (.ref c_NoHandle) = some false)
    (wq_NoWorth_Stale : PySem.W.subIn K (.ref c_NoWorth) (.ref c_Stale) = some false)
    (wq_NoWorth_Full : PySem.W.subIn K (.ref c_NoWorth) (.ref c_Full) = some false)
    (wq_NoWorth_NoPlace : PySem.W.subIn K (.ref c_NoWorth) (.ref c_NoPlace) = some false)
    (wq_NoWorth_NoList : PySem.W.subIn K (.ref c_NoWorth) (.ref c_NoList) = some false)
    (wq_NoWorth_NoNumber : PySem.W.subIn K (.ref c_NoWorth) (.ref c_NoNumber) = some false)
    (wq_NoWorth_NotEmpty : PySem.W.subIn K (.ref c_NoWorth) (.ref c_NotEmpty) = some false)
    (wq_NoWorth_NoDeed : PySem.W.subIn K (.ref c_NoWorth) (.ref c_NoDeed) = some false)
    (wg_NoHandle : PySem.W.findIn K (.ref c_NoHandle) "__getattribute__" = some (some (.builtin "BaseException.__getattribute__")))
    (wk_NoHandle : PySem.W.findIn K (.ref c_NoHandle) "__getattr__" = some none)
    (wd_NoHandle : PySem.W.hasDictIn K c_NoHandle = true)
    (wa_NoHandle : PySem.W.findIn K (.ref c_NoHandle) "__class__" = some (some (.builtin "object.__class__")))
    (wm_NoHandle : PySem.W.mroIn K c_NoHandle (.type "object") = some true)
    (wv_NoHandle : PySem.W.subIn K (.ref c_NoHandle) (.type "ValueError") = some true)
    (wh_NoHandle : PySem.W.subIn K (.ref c_NoHandle) (.ref c_HandError) = some true)
    (wq_NoHandle_NoSettings : PySem.W.subIn K (.ref c_NoHandle) (.ref c_NoSettings) = some false)
    (wq_NoHandle_NoWorth : PySem.W.subIn K (.ref c_NoHandle) (.ref c_NoWorth) = some false)
    (wq_NoHandle_NoHandle : PySem.W.subIn K (.ref c_NoHandle) (.ref c_NoHandle) = some true)
    (wq_NoHandle_Stale : PySem.W.subIn K (.ref c_NoHandle) (.ref c_Stale) = some false)
    (wq_NoHandle_Full : PySem.W.subIn K (.ref c_NoHandle) (.ref c_Full) = some false)
    (wq_NoHandle_NoPlace : PySem.W.subIn K (.ref c_NoHandle) (.ref c_NoPlace) = some false)
    (wq_NoHandle_NoList : PySem.W.subIn K (.ref c_NoHandle) (.ref c_NoList) = some false)
    (wq_NoHandle_NoNumber : PySem.W.subIn K (.ref c_NoHandle) (.ref c_NoNumber) = some false)
    (wq_NoHandle_NotEmpty : PySem.W.subIn K (.ref c_NoHandle) (.ref c_NotEmpty) = some false)
    (wq_NoHandle_NoDeed : PySem.W.subIn K (.ref c_NoHandle) (.ref c_NoDeed) = some false)
    (wg_Stale : PySem.W.findIn K (.ref c_Stale) "__getattribute__" = some (some (.builtin "BaseException.__getattribute__")))
    (wk_Stale : PySem.W.findIn K (.ref c_Stale) "__getattr__" = some none)
    (wd_Stale : PySem.W.hasDictIn K c_Stale = true)
    (wa_Stale : PySem.W.findIn K (.ref c_Stale) "__class__" = some (some (.builtin "object.__class__")))
    (wm_Stale : PySem.W.mroIn K c_Stale (.type "object") = some true)
    (wv_Stale : PySem.W.subIn K (.ref c_Stale) (.type "ValueError") = some true)
    (wh_Stale : PySem.W.subIn K (.ref c_Stale) (.ref c_HandError) = some true)
    (wq_Stale_NoSettings : PySem.W.subIn K (.ref c_Stale) (.ref c_NoSettings) = some false)
    (wq_Stale_NoWorth : PySem.W.subIn K (.ref c_Stale) (.ref c_NoWorth) = some false)
    (wq_Stale_NoHandle : PySem.W.subIn K (.ref c_Stale) (.ref c_NoHandle) = some false)
    (wq_Stale_Stale : PySem.W.subIn K (.ref c_Stale) (.ref c_Stale) = some true)
    (wq_Stale_Full : PySem.W.subIn K (.ref c_Stale) (.ref c_Full) = some false)
    (wq_Stale_NoPlace : PySem.W.subIn K (.ref c_Stale) (.ref c_NoPlace) = some false)
    (wq_Stale_NoList : PySem.W.subIn K (.ref c_Stale) (.ref c_NoList) = some false)
    (wq_Stale_NoNumber : PySem.W.subIn K (.ref c_Stale) (.ref c_NoNumber) = some false)
    (wq_Stale_NotEmpty : PySem.W.subIn K (.ref c_Stale) (.ref c_NotEmpty) = some false)
    (wq_Stale_NoDeed : PySem.W.subIn K (.ref c_Stale) (.ref c_NoDeed) = some false)
    (wg_Full : PySem.W.findIn K (.ref c_Full) "__getattribute__" = some (some (.builtin "BaseException.__getattribute__")))
    (wk_Full : PySem.W.findIn K (.ref c_Full) "__getattr__" = some none)
    (wd_Full : PySem.W.hasDictIn K c_Full = true)
    (wa_Full : PySem.W.findIn K (.ref c_Full) "__class__" = some (some (.builtin "object.__class__")))
    (wm_Full : PySem.W.mroIn K c_Full (.type "object") = some true)
    (wv_Full : PySem.W.subIn K (.ref c_Full) (.type "ValueError") = some true)
    (wh_Full : PySem.W.subIn K (.ref c_Full) (.ref c_HandError) = some true)
    (wq_Full_NoSettings : PySem.W.subIn K (.ref c_Full) (.ref c_NoSettings) = some false)
    (wq_Full_NoWorth : PySem.W.subIn K (.ref c_Full) (.ref c_NoWorth) = some false)
    (wq_Full_NoHandle : PySem.W.subIn K (.ref c_Full) (.ref c_NoHandle) = some false)
    (wq_Full_Stale : PySem.W.subIn K (.ref c_Full) (.ref c_Stale) = some false)
    (wq_Full_Full : PySem.W.subIn K (.ref c_Full) (.ref c_Full) = some true)
    (wq_Full_NoPlace : PySem.W.subIn K (.ref c_Full) (.ref c_NoPlace) = some false)
    (wq_Full_NoList : PySem.W.subIn K (.ref c_Full) (.ref c_NoList) = some false)
    (wq_Full_NoNumber : PySem.W.subIn K (.ref c_Full) (.ref c_NoNumber) = some false)
    (wq_Full_NotEmpty : PySem.W.subIn K (.ref c_Full) (.ref c_NotEmpty) = some false)
    (wq_Full_NoDeed : PySem.W.subIn K (.ref c_Full) (.ref c_NoDeed) = some false)
    (wg_NoPlace : PySem.W.findIn K (.ref c_NoPlace) "__getattribute__" = some (some (.builtin "BaseException.__getattribute__")))
    (wk_NoPlace : PySem.W.findIn K (.ref c_NoPlace) "__getattr__" = some none)
    (wd_NoPlace : PySem.W.hasDictIn K c_NoPlace = true)
    (wa_NoPlace : PySem.W.findIn K (.ref c_NoPlace) "__class__" = some (some (.builtin "object.__class__")))
    (wm_NoPlace : PySem.W.mroIn K c_NoPlace (.type "object") = some true)
    (wv_NoPlace : PySem.W.subIn K (.ref c_NoPlace) (.type "ValueError") = some true)
    (wh_NoPlace : PySem.W.subIn K (.ref c_NoPlace) (.ref c_HandError) = some true)
    (wq_NoPlace_NoSettings : PySem.W.subIn K (.ref c_NoPlace) (.ref c_NoSettings) = some false)
    (wq_NoPlace_NoWorth : PySem.W.subIn K (.ref c_NoPlace) (.ref c_NoWorth) = some false)
    (wq_NoPlace_NoHandle : PySem.W.subIn K (.ref c_NoPlace) (.ref c_NoHandle) = some false)
    (wq_NoPlace_Stale : PySem.W.subIn K (.ref c_NoPlace) (.ref c_Stale) = some false)
    (wq_NoPlace_Full : PySem.W.subIn K (.ref c_NoPlace) (.ref c_Full) = some false)
    (wq_NoPlace_NoPlace : PySem.W.subIn K (.ref c_NoPlace) (.ref c_NoPlace) = some true)
    (wq_NoPlace_NoList : PySem.W.subIn K (.ref c_NoPlace) (.ref c_NoList) = some false)
    (wq_NoPlace_NoNumber : PySem.W.subIn K (.ref c_NoPlace) (.ref c_NoNumber) = some false)
    (wq_NoPlace_NotEmpty : PySem.W.subIn K (.ref c_NoPlace) (.ref c_NotEmpty) = some false)
    (wq_NoPlace_NoDeed : PySem.W.subIn K (.ref c_NoPlace) (.ref c_NoDeed) = some false)
    (wg_NoList : PySem.W.findIn K (.ref c_NoList) "__getattribute__" = some (some (.builtin "BaseException.__getattribute__")))
    (wk_NoList : PySem.W.findIn K (.ref c_NoList) "__getattr__" = some none)
    (wd_NoList : PySem.W.hasDictIn K c_NoList = true)
    (wa_NoList : PySem.W.findIn K (.ref c_NoList) "__class__" = some (some (.builtin "object.__class__")))
    (wm_NoList : PySem.W.mroIn K c_NoList (.type "object") = some true)
    (wv_NoList : PySem.W.subIn K (.ref c_NoList) (.type "ValueError") = some true)
    (wh_NoList : PySem.W.subIn K (.ref c_NoList) (.ref c_HandError) = some true)
    (wq_NoList_NoSettings : PySem.W.subIn K (.ref c_NoList) (.ref c_NoSettings) = some false)
    (wq_NoList_NoWorth : PySem.W.subIn K (.ref c_NoList) (.ref c_NoWorth) = some false)
    (wq_NoList_NoHandle : PySem.W.subIn K (.ref c_NoList) (.ref c_NoHandle) = some false)
    (wq_NoList_Stale : PySem.W.subIn K (.ref c_NoList) (.ref c_Stale) = some false)
    (wq_NoList_Full : PySem.W.subIn K (.ref c_NoList) (.ref c_Full) = some false)
    (wq_NoList_NoPlace : PySem.W.subIn K (.ref c_NoList) (.ref c_NoPlace) = some false)
    (wq_NoList_NoList : PySem.W.subIn K (.ref c_NoList) (.ref c_NoList) = some true)
    (wq_NoList_NoNumber : PySem.W.subIn K (.ref c_NoList) (.ref c_NoNumber) = some false)
    (wq_NoList_NotEmpty : PySem.W.subIn K (.ref c_NoList) (.ref c_NotEmpty) = some false)
    (wq_NoList_NoDeed : PySem.W.subIn K (.ref c_NoList) (.ref c_NoDeed) = some false)
    (wg_NoNumber : PySem.W.findIn K (.ref c_NoNumber) "__getattribute__" = some (some (.builtin "BaseException.__getattribute__")))
    (wk_NoNumber : PySem.W.findIn K (.ref c_NoNumber) "__getattr__" = some none)
    (wd_NoNumber : PySem.W.hasDictIn K c_NoNumber = true)
    (wa_NoNumber : PySem.W.findIn K (.ref c_NoNumber) "__class__" = some (some (.builtin "object.__class__")))
    (wm_NoNumber : PySem.W.mroIn K c_NoNumber (.type "object") = some true)
    (wv_NoNumber : PySem.W.subIn K (.ref c_NoNumber) (.type "ValueError") = some true)
    (wh_NoNumber : PySem.W.subIn K (.ref c_NoNumber) (.ref c_HandError) = some true)
    (wq_NoNumber_NoSettings : PySem.W.subIn K (.ref c_NoNumber) (.ref c_NoSettings) = some false)
    (wq_NoNumber_NoWorth : PySem.W.subIn K (.ref c_NoNumber) (.ref c_NoWorth) = some false)
    (wq_NoNumber_NoHandle : PySem.W.subIn K (.ref c_NoNumber) (.ref c_NoHandle) = some false)
    (wq_NoNumber_Stale : PySem.W.subIn K (.ref c_NoNumber) (.ref c_Stale) = some false)
    (wq_NoNumber_Full : PySem.W.subIn K (.ref c_NoNumber) (.ref c_Full) = some false)
    (wq_NoNumber_NoPlace : PySem.W.subIn K (.ref c_NoNumber) (.ref c_NoPlace) = some false)
    (wq_NoNumber_NoList : PySem.W.subIn K (.ref c_NoNumber) (.ref c_NoList) = some false)
    (wq_NoNumber_NoNumber : PySem.W.subIn K (.ref c_NoNumber) (.ref c_NoNumber) = some true)
    (wq_NoNumber_NotEmpty : PySem.W.subIn K (.ref c_NoNumber) (.ref c_NotEmpty) = some false)
    (wq_NoNumber_NoDeed : PySem.W.subIn K (.ref c_NoNumber) (.ref c_NoDeed) = some false)
    (wg_NotEmpty : PySem.W.findIn K (.ref c_NotEmpty) "__getattribute__" = some (some (.builtin "BaseException.__getattribute__")))
    (wk_NotEmpty : PySem.W.findIn K (.ref c_NotEmpty) "__getattr__" = some none)
    (wd_NotEmpty : PySem.W.hasDictIn K c_NotEmpty = true)
    (wa_NotEmpty : PySem.W.findIn K (.ref c_NotEmpty) "__class__" = some (some (.builtin "object.__class__")))
    (wm_NotEmpty : PySem.W.mroIn K c_NotEmpty (.type "object") = some true)
    (wv_NotEmpty : PySem.W.subIn K (.ref c_NotEmpty) (.type "ValueError") = some true)
    (wh_NotEmpty : PySem.W.subIn K (.ref c_NotEmpty) (.ref c_HandError) = some true)
    (wq_NotEmpty_NoSettings : PySem.W.subIn K (.ref c_NotEmpty) (.ref c_NoSettings) = some false)
    (wq_NotEmpty_NoWorth : PySem.W.subIn K (.ref c_NotEmpty) (.ref c_NoWorth) = some false)
    (wq_NotEmpty_NoHandle : PySem.W.subIn K (.ref c_NotEmpty) (.ref c_NoHandle) = some false)
    (wq_NotEmpty_Stale : PySem.W.subIn K (.ref c_NotEmpty) (.ref c_Stale) = some false)
    (wq_NotEmpty_Full : PySem.W.subIn K (.ref c_NotEmpty) (.ref c_Full) = some false)
    (wq_NotEmpty_NoPlace : PySem.W.subIn K (.ref c_NotEmpty) (.ref c_NoPlace) = some false)
    (wq_NotEmpty_NoList : PySem.W.subIn K (.ref c_NotEmpty) (.ref c_NoList) = some false)
    (wq_NotEmpty_NoNumber : PySem.W.subIn K (.ref c_NotEmpty) (.ref c_NoNumber) = some false)
    (wq_NotEmpty_NotEmpty : PySem.W.subIn K (.ref c_NotEmpty) (.ref c_NotEmpty) = some true)
    (wq_NotEmpty_NoDeed : PySem.W.subIn K (.ref c_NotEmpty) (.ref c_NoDeed) = some false)
    (wg_NoDeed : PySem.W.findIn K (.ref c_NoDeed) "__getattribute__" = some (some (.builtin "BaseException.__getattribute__")))
    (wk_NoDeed : PySem.W.findIn K (.ref c_NoDeed) "__getattr__" = some none)
    (wd_NoDeed : PySem.W.hasDictIn K c_NoDeed = true)
    (wa_NoDeed : PySem.W.findIn K (.ref c_NoDeed) "__class__" = some (some (.builtin "object.__class__")))
    (wm_NoDeed : PySem.W.mroIn K c_NoDeed (.type "object") = some true)
    (wv_NoDeed : PySem.W.subIn K (.ref c_NoDeed) (.type "ValueError") = some true)
    (wh_NoDeed : PySem.W.subIn K (.ref c_NoDeed) (.ref c_HandError) = some true)
    (wq_NoDeed_NoSettings : PySem.W.subIn K (.ref c_NoDeed) (.ref c_NoSettings) = some false)
    (wq_NoDeed_NoWorth : PySem.W.subIn K (.ref c_NoDeed) (.ref c_NoWorth) = some false)
    (wq_NoDeed_NoHandle : PySem.W.subIn K (.ref c_NoDeed) (.ref c_NoHandle) = some false)
    (wq_NoDeed_Stale : PySem.W.subIn K (.ref c_NoDeed) (.ref c_Stale) = some false)
    (wq_NoDeed_Full : PySem.W.subIn K (.ref c_NoDeed) (.ref c_Full) = some false)
    (wq_NoDeed_NoPlace : PySem.W.subIn K (.ref c_NoDeed) (.ref c_NoPlace) = some false)
    (wq_NoDeed_NoList : PySem.W.subIn K (.ref c_NoDeed) (.ref c_NoList) = some false)
    (wq_NoDeed_NoNumber : PySem.W.subIn K (.ref c_NoDeed) (.ref c_NoNumber) = some false)
    (wq_NoDeed_NotEmpty : PySem.W.subIn K (.ref c_NoDeed) (.ref c_NotEmpty) = some false)
    (wq_NoDeed_NoDeed : PySem.W.subIn K (.ref c_NoDeed) (.ref c_NoDeed) = some true)
    (da_is_whole : PySem.W.nsIn K mainGlobals "is_whole" = some (some (.ref f_is_whole)))
    (dl_is_whole : K.lookup f_is_whole = some ⟨oc_is_whole, od_is_whole, .func (PySem.W.fnOf "is_whole" "is_whole" (defArgs s_is_whole) (defBody s_is_whole) (defScope s_is_whole) .none kV_is_whole dc_is_whole pm_is_whole an_is_whole cd_is_whole ct_is_whole), sl_is_whole⟩)
    (dc_is_whole' : PySem.W.codeIn K cd_is_whole "is_whole" = true)
    (dk_is_whole : PySem.W.keepIn K (.ref f_is_whole) = true)
    (da_are_settings : PySem.W.nsIn K mainGlobals "are_settings" = some (some (.ref f_are_settings)))
    (dl_are_settings : K.lookup f_are_settings = some ⟨oc_are_settings, od_are_settings, .func (PySem.W.fnOf "are_settings" "are_settings" (defArgs s_are_settings) (defBody s_are_settings) (defScope s_are_settings) .none kV_are_settings dc_are_settings pm_are_settings an_are_settings cd_are_settings ct_are_settings), sl_are_settings⟩)
    (dc_are_settings' : PySem.W.codeIn K cd_are_settings "are_settings" = true)
    (dk_are_settings : PySem.W.keepIn K (.ref f_are_settings) = true)
    (da_checked : PySem.W.nsIn K mainGlobals "checked" = some (some (.ref f_checked)))
    (dl_checked : K.lookup f_checked = some ⟨oc_checked, od_checked, .func (PySem.W.fnOf "checked" "checked" (defArgs s_checked) (defBody s_checked) (defScope s_checked) .none kV_checked dc_checked pm_checked an_checked cd_checked ct_checked), sl_checked⟩)
    (dc_checked' : PySem.W.codeIn K cd_checked "checked" = true)
    (dk_checked : PySem.W.keepIn K (.ref f_checked) = true)
    (da_is_handle : PySem.W.nsIn K mainGlobals "is_handle" = some (some (.ref f_is_handle)))
    (dl_is_handle : K.lookup f_is_handle = some ⟨oc_is_handle, od_is_handle, .func (PySem.W.fnOf "is_handle" "is_handle" (defArgs s_is_handle) (defBody s_is_handle) (defScope s_is_handle) .none kV_is_handle dc_is_handle pm_is_handle an_is_handle cd_is_handle ct_is_handle), sl_is_handle⟩)
    (dc_is_handle' : PySem.W.codeIn K cd_is_handle "is_handle" = true)
    (dk_is_handle : PySem.W.keepIn K (.ref f_is_handle) = true)
    (da_need_handle : PySem.W.nsIn K mainGlobals "need_handle" = some (some (.ref f_need_handle)))
    (dl_need_handle : K.lookup f_need_handle = some ⟨oc_need_handle, od_need_handle, .func (PySem.W.fnOf "need_handle" "need_handle" (defArgs s_need_handle) (defBody s_need_handle) (defScope s_need_handle) .none kV_need_handle dc_need_handle pm_need_handle an_need_handle cd_need_handle ct_need_handle), sl_need_handle⟩)
    (dc_need_handle' : PySem.W.codeIn K cd_need_handle "need_handle" = true)
    (dk_need_handle : PySem.W.keepIn K (.ref f_need_handle) = true)
    (da_number_of : PySem.W.nsIn K mainGlobals "number_of" = some (some (.ref f_number_of)))
    (dl_number_of : K.lookup f_number_of = some ⟨oc_number_of, od_number_of, .func (PySem.W.fnOf "number_of" "number_of" (defArgs s_number_of) (defBody s_number_of) (defScope s_number_of) .none kV_number_of dc_number_of pm_number_of an_number_of cd_number_of ct_number_of), sl_number_of⟩)
    (dc_number_of' : PySem.W.codeIn K cd_number_of "number_of" = true)
    (dk_number_of : PySem.W.keepIn K (.ref f_number_of) = true)
    (da_handle_of : PySem.W.nsIn K mainGlobals "handle_of" = some (some (.ref f_handle_of)))
    (dl_handle_of : K.lookup f_handle_of = some ⟨oc_handle_of, od_handle_of, .func (PySem.W.fnOf "handle_of" "handle_of" (defArgs s_handle_of) (defBody s_handle_of) (defScope s_handle_of) .none kV_handle_of dc_handle_of pm_handle_of an_handle_of cd_handle_of ct_handle_of), sl_handle_of⟩)
    (dc_handle_of' : PySem.W.codeIn K cd_handle_of "handle_of" = true)
    (dk_handle_of : PySem.W.keepIn K (.ref f_handle_of) = true)
    (da__law_cell_at : PySem.W.nsIn K mainGlobals "_law_cell_at" = some (some (.ref f__law_cell_at)))
    (dl__law_cell_at : K.lookup f__law_cell_at = some ⟨oc__law_cell_at, od__law_cell_at, .func (PySem.W.fnOf "_law_cell_at" "_law_cell_at" (defArgs s__law_cell_at) (defBody s__law_cell_at) (defScope s__law_cell_at) .none kV__law_cell_at dc__law_cell_at pm__law_cell_at an__law_cell_at cd__law_cell_at ct__law_cell_at), sl__law_cell_at⟩)
    (dc__law_cell_at' : PySem.W.codeIn K cd__law_cell_at "_law_cell_at" = true)
    (dk__law_cell_at : PySem.W.keepIn K (.ref f__law_cell_at) = true)
    (da__law_mixed : PySem.W.nsIn K mainGlobals "_law_mixed" = some (some (.ref f__law_mixed)))
    (dl__law_mixed : K.lookup f__law_mixed = some ⟨oc__law_mixed, od__law_mixed, .func (PySem.W.fnOf "_law_mixed" "_law_mixed" (defArgs s__law_mixed) (defBody s__law_mixed) (defScope s__law_mixed) .none kV__law_mixed dc__law_mixed pm__law_mixed an__law_mixed cd__law_mixed ct__law_mixed), sl__law_mixed⟩)
    (dc__law_mixed' : PySem.W.codeIn K cd__law_mixed "_law_mixed" = true)
    (dk__law_mixed : PySem.W.keepIn K (.ref f__law_mixed) = true)
    (da__law_draw : PySem.W.nsIn K mainGlobals "_law_draw" = some (some (.ref f__law_draw)))
    (dl__law_draw : K.lookup f__law_draw = some ⟨oc__law_draw, od__law_draw, .func (PySem.W.fnOf "_law_draw" "_law_draw" (defArgs s__law_draw) (defBody s__law_draw) (defScope s__law_draw) .none kV__law_draw dc__law_draw pm__law_draw an__law_draw cd__law_draw ct__law_draw), sl__law_draw⟩)
    (dc__law_draw' : PySem.W.codeIn K cd__law_draw "_law_draw" = true)
    (dk__law_draw : PySem.W.keepIn K (.ref f__law_draw) = true)
    (da__law_pick : PySem.W.nsIn K mainGlobals "_law_pick" = some (some (.ref f__law_pick)))
    (dl__law_pick : K.lookup f__law_pick = some ⟨oc__law_pick, od__law_pick, .func (PySem.W.fnOf "_law_pick" "_law_pick" (defArgs s__law_pick) (defBody s__law_pick) (defScope s__law_pick) .none kV__law_pick dc__law_pick pm__law_pick an__law_pick cd__law_pick ct__law_pick), sl__law_pick⟩)
    (dc__law_pick' : PySem.W.codeIn K cd__law_pick "_law_pick" = true)
    (dk__law_pick : PySem.W.keepIn K (.ref f__law_pick) = true)
    (da__law_settings : PySem.W.nsIn K mainGlobals "_law_settings" = some (some (.ref f__law_settings)))
    (dl__law_settings : K.lookup f__law_settings = some ⟨oc__law_settings, od__law_settings, .func (PySem.W.fnOf "_law_settings" "_law_settings" (defArgs s__law_settings) (defBody s__law_settings) (defScope s__law_settings) .none kV__law_settings dc__law_settings pm__law_settings an__law_settings cd__law_settings ct__law_settings), sl__law_settings⟩)
    (dc__law_settings' : PySem.W.codeIn K cd__law_settings "_law_settings" = true)
    (dk__law_settings : PySem.W.keepIn K (.ref f__law_settings) = true)
    (da__law_bad_handle : PySem.W.nsIn K mainGlobals "_law_bad_handle" = some (some (.ref f__law_bad_handle)))
    (dl__law_bad_handle : K.lookup f__law_bad_handle = some ⟨oc__law_bad_handle, od__law_bad_handle, .func (PySem.W.fnOf "_law_bad_handle" "_law_bad_handle" (defArgs s__law_bad_handle) (defBody s__law_bad_handle) (defScope s__law_bad_handle) .none kV__law_bad_handle dc__law_bad_handle pm__law_bad_handle an__law_bad_handle cd__law_bad_handle ct__law_bad_handle), sl__law_bad_handle⟩)
    (dc__law_bad_handle' : PySem.W.codeIn K cd__law_bad_handle "_law_bad_handle" = true)
    (dk__law_bad_handle : PySem.W.keepIn K (.ref f__law_bad_handle) = true)
    (da__law_which : PySem.W.nsIn K mainGlobals "_law_which" = some (some (.ref f__law_which)))
    (dl__law_which : K.lookup f__law_which = some ⟨oc__law_which, od__law_which, .func (PySem.W.fnOf "_law_which" "_law_which" (defArgs s__law_which) (defBody s__law_which) (defScope s__law_which) .none kV__law_which dc__law_which pm__law_which an__law_which cd__law_which ct__law_which), sl__law_which⟩)
    (dc__law_which' : PySem.W.codeIn K cd__law_which "_law_which" = true)
    (dk__law_which : PySem.W.keepIn K (.ref f__law_which) = true)
    (da__law_ask : PySem.W.nsIn K mainGlobals "_law_ask" = some (some (.ref f__law_ask)))
    (dl__law_ask : K.lookup f__law_ask = some ⟨oc__law_ask, od__law_ask, .func (PySem.W.fnOf "_law_ask" "_law_ask" (defArgs s__law_ask) (defBody s__law_ask) (defScope s__law_ask) .none kV__law_ask dc__law_ask pm__law_ask an__law_ask cd__law_ask ct__law_ask), sl__law_ask⟩)
    (dc__law_ask' : PySem.W.codeIn K cd__law_ask "_law_ask" = true)
    (dk__law_ask : PySem.W.keepIn K (.ref f__law_ask) = true)
    (da_law : PySem.W.nsIn K mainGlobals "law" = some (some (.ref f_law)))
    (dl_law : K.lookup f_law = some ⟨oc_law, od_law, .func (PySem.W.fnOf "law" "law" (defArgs s_law) (defBody s_law) (defScope s_law) .none kV_law dc_law pm_law an_law cd_law ct_law), sl_law⟩)
    (dc_law' : PySem.W.codeIn K cd_law "law" = true)
    (dk_law : PySem.W.keepIn K (.ref f_law) = true) :
    ∃ fd : FuncData, (∀ (s : Shared) (v : Value), BindsTo s fd ⟨[v], []⟩ [("script", v)]) ∧ ∀ base : Heap, K.In base → base.Ns mainGlobals mg → FnOk P w K mg base (L2N.CX P w) 7 fa fd ["script"] (spLaw K) := by
  have T : Txt K mg ⟨c_HandError, c_NoSettings, c_NoWorth, c_NoHandle, c_Stale, c_Full, c_NoPlace, c_NoList, c_NoNumber, c_NotEmpty, c_NoDeed, 0, 0, 0, 0⟩ := by
    constructor
    case b_isinstance => exact PySem.W.mg_none_of X G z_isinstance
    case b_int => exact PySem.W.mg_none_of X G z_int
    case b_bool => exact PySem.W.mg_none_of X G z_bool
    case b_tuple => exact PySem.W.mg_none_of X G z_tuple
    case b_len => exact PySem.W.mg_none_of X G z_len
    case b_str => exact PySem.W.mg_none_of X G z_str
    case b_ValueError => exact PySem.W.mg_none_of X G z_ValueError
    case b_range => exact PySem.W.mg_none_of X G z_range
    case c_SLOTS => exact ⟨_, PySem.W.mg_of X G q_SLOTS⟩
    case c_ROUNDS => exact ⟨_, PySem.W.mg_of X G q_ROUNDS⟩
    case c_ORDERS => exact ⟨_, PySem.W.mg_of X G q_ORDERS, fun _ => .inr ⟨_, _, _, l_ORDERS, rfl, rfl, by show 2 ≤ sizeLine; decide, .cons ⟨_, rfl⟩ (.cons ⟨_, rfl⟩ (.nil))⟩⟩
    case c_ENDS => exact ⟨_, PySem.W.mg_of X G q_ENDS, fun _ => .inr ⟨_, _, _, l_ENDS, rfl, rfl, by show 2 ≤ sizeLine; decide, .cons ⟨_, rfl⟩ (.cons ⟨_, rfl⟩ (.nil))⟩⟩
    case x_HandError => exact xn_mk X G xa_HandError xe_HandError xk_HandError xb_HandError xt_HandError
    case x_NoSettings => exact xn_mk X G xa_NoSettings xe_NoSettings xk_NoSettings xb_NoSettings xt_NoSettings
    case x_NoWorth => exact xn_mk X G xa_NoWorth xe_NoWorth xk_NoWorth xb_NoWorth xt_NoWorth
    case x_NoHandle => exact xn_mk X G xa_NoHandle xe_NoHandle xk_NoHandle xb_NoHandle xt_NoHandle
    case x_Stale => exact xn_mk X G xa_Stale xe_Stale xk_Stale xb_Stale xt_Stale
    case x_Full => exact xn_mk X G xa_Full xe_Full xk_Full xb_Full xt_Full
    case x_NoPlace => exact xn_mk X G xa_NoPlace xe_NoPlace xk_NoPlace xb_NoPlace xt_NoPlace
    case x_NoList => exact xn_mk X G xa_NoList xe_NoList xk_NoList xb_NoList xt_NoList
    case x_NoNumber => exact xn_mk X G xa_NoNumber xe_NoNumber xk_NoNumber xb_NoNumber xt_NoNumber
    case x_NotEmpty => exact xn_mk X G xa_NotEmpty xe_NotEmpty xk_NotEmpty xb_NotEmpty xt_NotEmpty
    case x_NoDeed => exact xn_mk X G xa_NoDeed xe_NoDeed xk_NoDeed xb_NoDeed xt_NoDeed
    case w_e => exact fun e => match e with | .NoSettings => ⟨wg_NoSettings, wk_NoSettings, xb_NoSettings, wd_NoSettings, wa_NoSettings, wn, wt, wm_NoSettings⟩ | .NoWorth => ⟨wg_NoWorth, wk_NoWorth, xb_NoWorth, wd_NoWorth, wa_NoWorth, wn, wt, wm_NoWorth⟩ | .NoHandle => ⟨wg_NoHandle, wk_NoHandle, xb_NoHandle, wd_NoHandle, wa_NoHandle, wn, wt, wm_NoHandle⟩ | .Stale => ⟨wg_Stale, wk_Stale, xb_Stale, wd_Stale, wa_Stale, wn, wt, wm_Stale⟩ | .Full => ⟨wg_Full, wk_Full, xb_Full, wd_Full, wa_Full, wn, wt, wm_Full⟩ | .NoPlace => ⟨wg_NoPlace, wk_NoPlace, xb_NoPlace, wd_NoPlace, wa_NoPlace, wn, wt, wm_NoPlace⟩ | .NoList => ⟨wg_NoList, wk_NoList, xb_NoList, wd_NoList, wa_NoList, wn, wt, wm_NoList⟩ | .NoNumber => ⟨wg_NoNumber, wk_NoNumber, xb_NoNumber, wd_NoNumber, wa_NoNumber, wn, wt, wm_NoNumber⟩ | .NotEmpty => ⟨wg_NotEmpty, wk_NotEmpty, xb_NotEmpty, wd_NotEmpty, wa_NotEmpty, wn, wt, wm_NotEmpty⟩ | .NoDeed => ⟨wg_NoDeed, wk_NoDeed, xb_NoDeed, wd_NoDeed, wa_NoDeed, wn, wt, wm_NoDeed⟩
    case w_k => exact fun e f => match e, f with | .NoSettings, .NoSettings => kit_self | .NoSettings, .NoWorth => kit_ref wd_NoWorth xt_NoWorth wq_NoSettings_NoSettings wq_NoSettings_NoWorth | .NoSettings, .NoHandle => kit_ref wd_NoHandle xt_NoHandle wq_NoSettings_NoSettings wq_NoSettings_NoHandle | .NoSettings, .Stale => kit_ref wd_Stale xt_Stale wq_NoSettings_NoSettings wq_NoSettings_Stale | .NoSettings, .Full => kit_ref wd_Full xt_Full wq_NoSettings_NoSettings wq_NoSettings_Full | .NoSettings, .NoPlace => kit_ref wd_NoPlace xt_NoPlace wq_NoSettings_NoSettings wq_NoSettings_NoPlace | .NoSettings, .NoList => kit_ref wd_NoList xt_NoList wq_NoSettings_NoSettings wq_NoSettings_NoList | .NoSettings, .NoNumber => kit_ref wd_NoNumber xt_NoNumber wq_NoSettings_NoSettings wq_NoSettings_NoNumber | .NoSettings, .NotEmpty => kit_ref wd_NotEmpty xt_NotEmpty wq_NoSettings_NoSettings wq_NoSettings_NotEmpty | .NoSettings, .NoDeed => kit_ref wd_NoDeed xt_NoDeed wq_NoSettings_NoSettings wq_NoSettings_NoDeed | .NoWorth, .NoSettings => kit_ref wd_NoSettings xt_NoSettings wq_NoWorth_NoWorth wq_NoWorth_NoSettings | .NoWorth, .NoWorth => kit_self | .NoWorth, .NoHandle => kit_ref wd_NoHandle xt_NoHandle wq_NoWorth_NoWorth wq_NoWorth_NoHandle | .NoWorth, .Stale => kit_ref wd_Stale xt_Stale wq_NoWorth_NoWorth wq_NoWorth_Stale | .NoWorth, .Full => kit_ref wd_Full xt_Full wq_NoWorth_NoWorth wq_NoWorth_Full | .NoWorth, .NoPlace => kit_ref wd_NoPlace xt_NoPlace wq_NoWorth_NoWorth wq_NoWorth_NoPlace | .NoWorth, .NoList => kit_ref wd_NoList xt_NoList wq_NoWorth_NoWorth wq_NoWorth_NoList | .NoWorth, .NoNumber => kit_ref wd_NoNumber xt_NoNumber wq_NoWorth_NoWorth wq_NoWorth_NoNumber | .NoWorth, .NotEmpty => kit_ref wd_NotEmpty xt_NotEmpty wq_NoWorth_NoWorth wq_NoWorth_NotEmpty | .NoWorth, .NoDeed => kit_ref wd_NoDeed xt_NoDeed wq_NoWorth_NoWorth wq_NoWorth_NoDeed | .NoHandle, .NoSettings => kit_ref wd_NoSettings xt_NoSettings wq_NoHandle_NoHandle wq_NoHandle_NoSettings | .NoHandle, .NoWorth => kit_ref wd_NoWorth xt_NoWorth wq_NoHandle_NoHandle wq_NoHandle_NoWorth | .NoHandle, .NoHandle => kit_self | .NoHandle, .Stale => kit_ref wd_Stale xt_Stale wq_NoHandle_NoHandle wq_NoHandle_Stale | .NoHandle, .Full => kit_ref wd_Full xt_Full wq_NoHandle_NoHandle wq_NoHandle_Full | .NoHandle, .NoPlace => kit_ref wd_NoPlace xt_NoPlace wq_NoHandle_NoHandle wq_NoHandle_NoPlace | .NoHandle, .NoList => kit_ref wd_NoList xt_NoList wq_NoHandle_NoHandle wq_NoHandle_NoList | .NoHandle, .NoNumber => kit_ref wd_NoNumber xt_NoNumber wq_NoHandle_NoHandle wq_NoHandle_NoNumber | .NoHandle, .NotEmpty => kit_ref wd_NotEmpty xt_NotEmpty wq_NoHandle_NoHandle wq_NoHandle_NotEmpty | .NoHandle, .NoDeed => kit_ref wd_NoDeed xt_NoDeed wq_NoHandle_NoHandle wq_NoHandle_NoDeed | .Stale, .NoSettings => kit_ref wd_NoSettings xt_NoSettings wq_Stale_Stale wq_Stale_NoSettings | .Stale, .NoWorth => kit_ref wd_NoWorth xt_NoWorth wq_Stale_Stale wq_Stale_NoWorth | .Stale, .NoHandle => kit_ref wd_NoHandle xt_NoHandle wq_Stale_Stale wq_Stale_NoHandle | .Stale, .Stale => kit_self | .Stale, .Full => kit_ref wd_Full xt_Full wq_Stale_Stale wq_Stale_Full | .Stale, .NoPlace => kit_ref wd_NoPlace xt_NoPlace wq_Stale_Stale wq_Stale_NoPlace | .Stale, .NoList => kit_ref wd_NoList xt_NoList wq_Stale_Stale wq_Stale_NoList | .Stale, .NoNumber => kit_ref wd_NoNumber xt_NoNumber wq_Stale_Stale wq_Stale_NoNumber | .Stale, .NotEmpty => kit_ref wd_NotEmpty xt_NotEmpty wq_Stale_Stale wq_Stale_NotEmpty | .Stale, .NoDeed => kit_ref wd_NoDeed xt_NoDeed wq_Stale_Stale wq_Stale_NoDeed | .Full, .NoSettings => kit_ref wd_NoSettings xt_NoSettings wq_Full_Full wq_Full_NoSettings | .Full, .NoWorth => kit_ref wd_NoWorth xt_NoWorth wq_Full_Full wq_Full_NoWorth | .Full, .NoHandle => kit_ref wd_NoHandle xt_NoHandle wq_Full_Full wq_Full_NoHandle | .Full, .Stale => kit_ref wd_Stale xt_Stale wq_Full_Full wq_Full_Stale | .Full, .Full => kit_self | .Full, .NoPlace => kit_ref wd_NoPlace xt_NoPlace wq_Full_Full wq_Full_NoPlace | .Full, .NoList => kit_ref wd_NoList xt_NoList wq_Full_Full wq_Full_NoList | .Full, .NoNumber => kit_ref wd_NoNumber xt_NoNumber wq_Full_Full wq_Full_NoNumber | .Full, .NotEmpty => kit_ref wd_NotEmpty xt_NotEmpty wq_Full_Full wq_Full_NotEmpty | .Full, .NoDeed => kit_ref wd_NoDeed xt_NoDeed wq_Full_Full wq_Full_NoDeed | .NoPlace, .NoSettings => kit_ref wd_NoSettings xt_NoSettings wq_NoPlace_NoPlace wq_NoPlace_NoSettings | .NoPlace, .NoWorth => kit_ref wd_NoWorth xt_NoWorth wq_NoPlace_NoPlace wq_NoPlace_NoWorth | .NoPlace, .NoHandle => kit_ref wd_NoHandle xt_NoHandle wq_NoPlace_NoPlace wq_NoPlace_NoHandle | .NoPlace, .Stale => kit_ref wd_Stale xt_Stale wq_NoPlace_NoPlace wq_NoPlace_Stale | .NoPlace, .Full => kit_ref wd_Full xt_Full wq_NoPlace_NoPlace wq_NoPlace_Full | .NoPlace, .NoPlace => kit_self | .NoPlace, .NoList => kit_ref wd_NoList xt_NoList wq_NoPlace_NoPlace wq_NoPlace_NoList | .NoPlace, .NoNumber => kit_ref wd_NoNumber xt_NoNumber wq_NoPlace_NoPlace wq_NoPlace_NoNumber | .NoPlace, .NotEmpty => kit_ref wd_NotEmpty xt_NotEmpty wq_NoPlace_NoPlace wq_NoPlace_NotEmpty | .NoPlace, .NoDeed => kit_ref wd_NoDeed xt_NoDeed wq_NoPlace_NoPlace wq_NoPlace_NoDeed | .NoList, .NoSettings => kit_ref wd_NoSettings xt_NoSettings wq_NoList_NoList wq_NoList_NoSettings | .NoList, .NoWorth => kit_ref wd_NoWorth xt_NoWorth wq_NoList_NoList wq_NoList_NoWorth | .NoList, .NoHandle => kit_ref wd_NoHandle xt_NoHandle wq_NoList_NoList wq_NoList_NoHandle | .NoList, .Stale => kit_ref wd_Stale xt_Stale wq_NoList_NoList wq_NoList_Stale | .NoList, .Full => kit_ref wd_Full xt_Full wq_NoList_NoList wq_NoList_Full | .NoList, .NoPlace => kit_ref wd_NoPlace xt_NoPlace wq_NoList_NoList wq_NoList_NoPlace | .NoList, .NoList => kit_self | .NoList, .NoNumber => kit_ref wd_NoNumber xt_NoNumber wq_NoList_NoList wq_NoList_NoNumber | .NoList, .NotEmpty => kit_ref wd_NotEmpty xt_NotEmpty wq_NoList_NoList wq_NoList_NotEmpty | .NoList, .NoDeed => kit_ref wd_NoDeed xt_NoDeed wq_NoList_NoList wq_NoList_NoDeed | .NoNumber, .NoSettings => kit_ref wd_NoSettings xt_NoSettings wq_NoNumber_NoNumber wq_NoNumber_NoSettings | .NoNumber, .NoWorth => kit_ref wd_NoWorth xt_NoWorth wq_NoNumber_NoNumber wq_NoNumber_NoWorth | .NoNumber, .NoHandle => kit_ref wd_NoHandle xt_NoHandle wq_NoNumber_NoNumber wq_NoNumber_NoHandle | .NoNumber, .Stale => kit_ref wd_Stale xt_Stale wq_NoNumber_NoNumber wq_NoNumber_Stale | .NoNumber, .Full => kit_ref wd_Full xt_Full wq_NoNumber_NoNumber wq_NoNumber_Full | .NoNumber, .NoPlace => kit_ref wd_NoPlace xt_NoPlace wq_NoNumber_NoNumber wq_NoNumber_NoPlace | .NoNumber, .NoList => kit_ref wd_NoList xt_NoList wq_NoNumber_NoNumber wq_NoNumber_NoList | .NoNumber, .NoNumber => kit_self | .NoNumber, .NotEmpty => kit_ref wd_NotEmpty xt_NotEmpty wq_NoNumber_NoNumber wq_NoNumber_NotEmpty | .NoNumber, .NoDeed => kit_ref wd_NoDeed xt_NoDeed wq_NoNumber_NoNumber wq_NoNumber_NoDeed | .NotEmpty, .NoSettings => kit_ref wd_NoSettings xt_NoSettings wq_NotEmpty_NotEmpty wq_NotEmpty_NoSettings | .NotEmpty, .NoWorth => kit_ref wd_NoWorth xt_NoWorth wq_NotEmpty_NotEmpty wq_NotEmpty_NoWorth | .NotEmpty, .NoHandle => kit_ref wd_NoHandle xt_NoHandle wq_NotEmpty_NotEmpty wq_NotEmpty_NoHandle | .NotEmpty, .Stale => kit_ref wd_Stale xt_Stale wq_NotEmpty_NotEmpty wq_NotEmpty_Stale | .NotEmpty, .Full => kit_ref wd_Full xt_Full wq_NotEmpty_NotEmpty wq_NotEmpty_Full | .NotEmpty, .NoPlace => kit_ref wd_NoPlace xt_NoPlace wq_NotEmpty_NotEmpty wq_NotEmpty_NoPlace | .NotEmpty, .NoList => kit_ref wd_NoList xt_NoList wq_NotEmpty_NotEmpty wq_NotEmpty_NoList | .NotEmpty, .NoNumber => kit_ref wd_NoNumber xt_NoNumber wq_NotEmpty_NotEmpty wq_NotEmpty_NoNumber | .NotEmpty, .NotEmpty => kit_self | .NotEmpty, .NoDeed => kit_ref wd_NoDeed xt_NoDeed wq_NotEmpty_NotEmpty wq_NotEmpty_NoDeed | .NoDeed, .NoSettings => kit_ref wd_NoSettings xt_NoSettings wq_NoDeed_NoDeed wq_NoDeed_NoSettings | .NoDeed, .NoWorth => kit_ref wd_NoWorth xt_NoWorth wq_NoDeed_NoDeed wq_NoDeed_NoWorth | .NoDeed, .NoHandle => kit_ref wd_NoHandle xt_NoHandle wq_NoDeed_NoDeed wq_NoDeed_NoHandle | .NoDeed, .Stale => kit_ref wd_Stale xt_Stale wq_NoDeed_NoDeed wq_NoDeed_Stale | .NoDeed, .Full => kit_ref wd_Full xt_Full wq_NoDeed_NoDeed wq_NoDeed_Full | .NoDeed, .NoPlace => kit_ref wd_NoPlace xt_NoPlace wq_NoDeed_NoDeed wq_NoDeed_NoPlace | .NoDeed, .NoList => kit_ref wd_NoList xt_NoList wq_NoDeed_NoDeed wq_NoDeed_NoList | .NoDeed, .NoNumber => kit_ref wd_NoNumber xt_NoNumber wq_NoDeed_NoDeed wq_NoDeed_NoNumber | .NoDeed, .NotEmpty => kit_ref wd_NotEmpty xt_NotEmpty wq_NoDeed_NoDeed wq_NoDeed_NotEmpty | .NoDeed, .NoDeed => kit_self
    case w_v => exact fun e => match e with | .NoSettings => kit_val wv_NoSettings | .NoWorth => kit_val wv_NoWorth | .NoHandle => kit_val wv_NoHandle | .Stale => kit_val wv_Stale | .Full => kit_val wv_Full | .NoPlace => kit_val wv_NoPlace | .NoList => kit_val wv_NoList | .NoNumber => kit_val wv_NoNumber | .NotEmpty => kit_val wv_NotEmpty | .NoDeed => kit_val wv_NoDeed
    case w_h => exact fun e => match e with | .NoSettings => PySem.W.exm_ref xb_HandError wd_HandError xt_HandError wh_NoSettings | .NoWorth => PySem.W.exm_ref xb_HandError wd_HandError xt_HandError wh_NoWorth | .NoHandle => PySem.W.exm_ref xb_HandError wd_HandError xt_HandError wh_NoHandle | .Stale => PySem.W.exm_ref xb_HandError wd_HandError xt_HandError wh_Stale | .Full => PySem.W.exm_ref xb_HandError wd_HandError xt_HandError wh_Full | .NoPlace => PySem.W.exm_ref xb_HandError wd_HandError xt_HandError wh_NoPlace | .NoList => PySem.W.exm_ref xb_HandError wd_HandError xt_HandError wh_NoList | .NoNumber => PySem.W.exm_ref xb_HandError wd_HandError xt_HandError wh_NoNumber | .NotEmpty => PySem.W.exm_ref xb_HandError wd_HandError xt_HandError wh_NotEmpty | .NoDeed => PySem.W.exm_ref xb_HandError wd_HandError xt_HandError wh_NoDeed
    case d_is_whole => exact defAt_mk X G da_is_whole dl_is_whole dc_is_whole' dk_is_whole (fun _ _ _ _ _ _ us hl => match us, hl with | [_, _, _], _ => rfl)
    case d_are_settings => exact defAt_mk X G da_are_settings dl_are_settings dc_are_settings' dk_are_settings (fun _ _ _ _ _ _ us hl => match us, hl with | [_], _ => rfl)
    case d_checked => exact defAt_mk X G da_checked dl_checked dc_checked' dk_checked (fun _ _ _ _ _ _ us hl => match us, hl with | [_], _ => rfl)
    case d_is_handle => exact defAt_mk X G da_is_handle dl_is_handle dc_is_handle' dk_is_handle (fun _ _ _ _ _ _ us hl => match us, hl with | [_, _], _ => rfl)
    case d_need_handle => exact defAt_mk X G da_need_handle dl_need_handle dc_need_handle' dk_need_handle (fun _ _ _ _ _ _ us hl => match us, hl with | [_, _], _ => rfl)
    case d_number_of => exact defAt_mk X G da_number_of dl_number_of dc_number_of' dk_number_of (fun _ _ _ _ _ _ us hl => match us, hl with | [_, _], _ => rfl)
    case d_handle_of => exact defAt_mk X G da_handle_of dl_handle_of dc_handle_of' dk_handle_of (fun _ _ _ _ _ _ us hl => match us, hl with | [_, _], _ => rfl)
    case d__law_cell_at => exact defAt_mk X G da__law_cell_at dl__law_cell_at dc__law_cell_at' dk__law_cell_at (fun _ _ _ _ _ _ us hl => match us, hl with | [_, _], _ => rfl)
    case d__law_mixed => exact defAt_mk X G da__law_mixed dl__law_mixed dc__law_mixed' dk__law_mixed (fun _ _ _ _ _ _ us hl => match us, hl with | [_, _, _], _ => rfl)
    case d__law_draw => exact defAt_mk X G da__law_draw dl__law_draw dc__law_draw' dk__law_draw (fun _ _ _ _ _ _ us hl => match us, hl with | [_, _, _], _ => rfl)
    case d__law_pick => exact defAt_mk X G da__law_pick dl__law_pick dc__law_pick' dk__law_pick (fun _ _ _ _ _ _ us hl => match us, hl with | [_, _, _], _ => rfl)
    case d__law_settings => exact defAt_mk X G da__law_settings dl__law_settings dc__law_settings' dk__law_settings (fun _ _ _ _ _ _ us hl => match us, hl with | [_, _], _ => rfl)
    case d__law_bad_handle => exact defAt_mk X G da__law_bad_handle dl__law_bad_handle dc__law_bad_handle' dk__law_bad_handle (fun _ _ _ _ _ _ us hl => match us, hl with | [_, _, _], _ => rfl)
    case d__law_which => exact defAt_mk X G da__law_which dl__law_which dc__law_which' dk__law_which (fun _ _ _ _ _ _ us hl => match us, hl with | [_], _ => rfl)
    case d__law_ask => exact defAt_mk X G da__law_ask dl__law_ask dc__law_ask' dk__law_ask (fun _ _ _ _ _ _ us hl => match us, hl with | [_, _, _], _ => rfl)
    case d_law => exact defAt_mk X G da_law dl_law dc_law' dk_law (fun _ _ _ _ _ _ us hl => match us, hl with | [_], _ => rfl)
  have e := hfa.symm.trans (PySem.W.mg_of X G da_law)
  cases e
  have F := fun_mk (st := s_law) dl_law dc_law' dk_law
  exact ⟨_, fun s v => .of_eq rfl, fun base _ _ => law_ok T F⟩
end Sh
end
open PySem PySem.W PyProof.Rows
set_option maxRecDepth 100000 in
set_option maxHeartbeats 0 in
theorem PySem.Challenge.cw_stalehands_k02_numbers_holds : PySem.Challenge.rw_stalehands_k02_numbers.Holds := by
  w_on; o_law; k_head; (case hw => w_witness2)
  k_fill
  refine Sh.walkL (k := 7) (l := PySem.Challenge.rw_stalehands_k02_numbers) ⟨rfl, by decide, by decide⟩ rfl rfl (fun w h Y => PySem.W.kIn_of Y) ?F
  case F =>
    intro w mg fa h KX G hmg
    refine' Sh.all_mk KX G hmg ?z_isinstance ?z_int ?z_bool ?z_tuple ?z_len ?z_str ?z_ValueError ?z_range ?q_SLOTS ?q_ROUNDS ?q_ORDERS ?l_ORDERS ?q_ENDS ?l_ENDS ?xa_HandError ?xe_HandError ?xk_HandError ?xb_HandError ?xt_HandError ?xa_NoSettings ?xe_NoSettings ?xk_NoSettings ?xb_NoSettings ?xt_NoSettings ?xa_NoWorth ?xe_NoWorth ?xk_NoWorth ?xb_NoWorth ?xt_NoWorth ?xa_NoHandle ?xe_NoHandle ?xk_NoHandle ?xb_NoHandle ?xt_NoHandle ?xa_Stale ?xe_Stale ?xk_Stale ?xb_Stale ?xt_Stale ?xa_Full ?xe_Full ?xk_Full ?xb_Full ?xt_Full ?xa_NoPlace ?xe_NoPlace ?xk_NoPlace ?xb_NoPlace ?xt_NoPlace ?xa_NoList ?xe_NoList ?xk_NoList ?xb_NoList ?xt_NoList ?xa_NoNumber ?xe_NoNumber ?xk_NoNumber ?xb_NoNumber ?xt_NoNumber ?xa_NotEmpty ?xe_NotEmpty ?xk_NotEmpty ?xb_NotEmpty ?xt_NotEmpty ?xa_NoDeed ?xe_NoDeed ?xk_NoDeed ?xb_NoDeed ?xt_NoDeed ?wn ?wd_HandError ?wt ?wg_NoSettings ?wk_NoSettings ?wd_NoSettings ?wa_NoSettings ?wm_NoSettings ?wv_NoSettings ?wh_NoSettings ?wq_NoSettings_NoSettings ?wq_NoSettings_NoWorth ?wq_NoSettings_NoHandle ?wq_NoSettings_Stale ?wq_NoSettings_Full ?wq_NoSettings_NoPlace ?wq_NoSettings_NoList ?wq_NoSettings_NoNumber ?wq_NoSettings_NotEmpty ?wq_NoSettings_NoDeed ?wg_NoWorth ?wk_NoWorth ?wd_NoWorth ?wa_NoWorth ?wm_NoWorth ?wv_NoWorth ?wh_NoWorth ?wq_NoWorth_NoSettings ?wq_NoWorth_NoWorth ?wq_NoWorth_NoHandle ?wq_NoWorth_Stale ?wq_NoWorth_Full ?wq_NoWorth_NoPlace ?wq_NoWorth_NoList ?wq_NoWorth_NoNumber ?wq_NoWorth_NotEmpty ?wq_NoWorth_NoDeed ?wg_NoHandle ?wk_NoHandle ?wd_NoHandle ?wa_NoHandle ?wm_NoHandle ?wv_NoHandle ?wh_NoHandle ?wq_NoHandle_NoSettings ?wq_NoHandle_NoWorth ?wq_NoHandle_NoHandle ?wq_NoHandle_Stale ?wq_NoHandle_Full ?wq_NoHandle_NoPlace ?wq_NoHandle_NoList ?wq_NoHandle_NoNumber ?wq_NoHandle_NotEmpty ?wq_NoHandle_NoDeed ?wg_Stale ?wk_Stale ?wd_Stale ?wa_Stale ?wm_Stale ?wv_Stale ?wh_Stale ?wq_Stale_NoSettings ?wq_Stale_NoWorth ?wq_Stale_NoHandle ?wq_Stale_Stale ?wq_Stale_Full ?wq_Stale_NoPlace ?wq_Stale_NoList ?wq_Stale_NoNumber ?wq_Stale_NotEmpty ?wq_Stale_NoDeed ?wg_Full ?wk_Full ?wd_Full ?wa_Full ?wm_Full ?wv_Full ?wh_Full ?wq_Full_NoSettings ?wq_Full_NoWorth ?wq_Full_NoHandle ?wq_Full_Stale ?wq_Full_Full ?wq_Full_NoPlace ?wq_Full_NoList ?wq_Full_NoNumber ?wq_Full_NotEmpty ?wq_Full_NoDeed ?wg_NoPlace ?wk_NoPlace ?wd_NoPlace ?wa_NoPlace ?wm_NoPlace ?wv_NoPlace ?wh_NoPlace ?wq_NoPlace_NoSettings ?wq_NoPlace_NoWorth ?wq_NoPlace_NoHandle ?wq_NoPlace_Stale ?wq_NoPlace_Full ?wq_NoPlace_NoPlace ?wq_NoPlace_NoList ?wq_NoPlace_NoNumber ?wq_NoPlace_NotEmpty ?wq_NoPlace_NoDeed ?wg_NoList ?wk_NoList ?wd_NoList ?wa_NoList ?wm_NoList ?wv_NoList ?wh_NoList ?wq_NoList_NoSettings ?wq_NoList_NoWorth ?wq_NoList_NoHandle ?wq_NoList_Stale ?wq_NoList_Full ?wq_NoList_NoPlace ?wq_NoList_NoList ?wq_NoList_NoNumber ?wq_NoList_NotEmpty ?wq_NoList_NoDeed ?wg_NoNumber ?wk_NoNumber ?wd_NoNumber ?wa_NoNumber ?wm_NoNumber ?wv_NoNumber ?wh_NoNumber ?wq_NoNumber_NoSettings ?wq_NoNumber_NoWorth ?wq_NoNumber_NoHandle ?wq_NoNumber_Stale ?wq_NoNumber_Full ?wq_NoNumber_NoPlace ?wq_NoNumber_NoList ?wq_NoNumber_NoNumber ?wq_NoNumber_NotEmpty ?wq_NoNumber_NoDeed ?wg_NotEmpty ?wk_NotEmpty ?wd_NotEmpty ?wa_NotEmpty ?wm_NotEmpty ?wv_NotEmpty ?wh_NotEmpty ?wq_NotEmpty_NoSettings ?wq_NotEmpty_NoWorth ?wq_NotEmpty_NoHandle ?wq_NotEmpty_Stale ?wq_NotEmpty_Full ?wq_NotEmpty_NoPlace ?wq_NotEmpty_NoList ?wq_NotEmpty_NoNumber ?wq_NotEmpty_NotEmpty ?wq_NotEmpty_NoDeed ?wg_NoDeed ?wk_NoDeed ?wd_NoDeed ?wa_NoDeed ?wm_NoDeed ?wv_NoDeed ?wh_NoDeed ?wq_NoDeed_NoSettings ?wq_NoDeed_NoWorth ?wq_NoDeed_NoHandle ?wq_NoDeed_Stale ?wq_NoDeed_Full ?wq_NoDeed_NoPlace ?wq_NoDeed_NoList ?wq_NoDeed_NoNumber ?wq_NoDeed_NotEmpty ?wq_NoDeed_NoDeed ?da_is_whole ?dl_is_whole ?dc_is_whole' ?dk_is_whole ?da_are_settings ?dl_are_settings ?dc_are_settings' ?dk_are_settings ?da_checked ?dl_checked ?dc_checked' ?dk_checked ?da_is_handle ?dl_is_handle ?dc_is_handle' ?dk_is_handle ?da_need_handle ?dl_need_handle ?dc_need_handle' ?dk_need_handle ?da_number_of ?dl_number_of ?dc_number_of' ?dk_number_of ?da_handle_of ?dl_handle_of ?dc_handle_of' ?dk_handle_of ?da__law_cell_at ?dl__law_cell_at ?dc__law_cell_at' ?dk__law_cell_at ?da__law_mixed ?dl__law_mixed ?dc__law_mixed' ?dk__law_mixed ?da__law_draw ?dl__law_draw ?dc__law_draw' ?dk__law_draw ?da__law_pick ?dl__law_pick ?dc__law_pick' ?dk__law_pick ?da__law_settings ?dl__law_settings ?dc__law_settings' ?dk__law_settings ?da__law_bad_handle ?dl__law_bad_handle ?dc__law_bad_handle' ?dk__law_bad_handle ?da__law_which ?dl__law_which ?dc__law_which' ?dk__law_which ?da__law_ask ?dl__law_ask ?dc__law_ask' ?dk__law_ask ?da_law ?dl_law ?dc_law' ?dk_law
    (case z_isinstance => k_is)
    (case z_int => k_is)
    (case z_bool => k_is)
    (case z_tuple => k_is)
    (case z_len => k_is)
    (case z_str => k_is)
    (case z_ValueError => k_is)
    (case z_range => k_is)
    (case q_SLOTS => k_is)
    (case q_ROUNDS => k_is)
    (case q_ORDERS => k_is)
    (case l_ORDERS => k_is)
    (case q_ENDS => k_is)
    (case l_ENDS => k_is)
    (case xa_HandError => k_is)
    (case xe_HandError => k_exc)
    (case xk_HandError => k_is)
    (case xb_HandError => k_is)
    (case xt_HandError => k_is)
    (case xa_NoSettings => k_is)
    (case xe_NoSettings => k_exc)
    (case xk_NoSettings => k_is)
    (case xb_NoSettings => k_is)
    (case xt_NoSettings => k_is)
    (case xa_NoWorth => k_is)
    (case xe_NoWorth => k_exc)
    (case xk_NoWorth => k_is)
    (case xb_NoWorth => k_is)
    (case xt_NoWorth => k_is)
    (case xa_NoHandle => k_is)
    (case xe_NoHandle => k_exc)
    (case xk_NoHandle => k_is)
    (case xb_NoHandle => k_is)
    (case xt_NoHandle => k_is)
    (case xa_Stale => k_is)
    (case xe_Stale => k_exc)
    (case xk_Stale => k_is)
    (case xb_Stale => k_is)
    (case xt_Stale => k_is)
    (case xa_Full => k_is)
    (case xe_Full => k_exc)
    (case xk_Full => k_is)
    (case xb_Full => k_is)
    (case xt_Full => k_is)
    (case xa_NoPlace => k_is)
    (case xe_NoPlace => k_exc)
    (case xk_NoPlace => k_is)
    (case xb_NoPlace => k_is)
    (case xt_NoPlace => k_is)
    (case xa_NoList => k_is)
    (case xe_NoList => k_exc)
    (case xk_NoList => k_is)
    (case xb_NoList => k_is)
    (case xt_NoList => k_is)
    (case xa_NoNumber => k_is)
    (case xe_NoNumber => k_exc)
    (case xk_NoNumber => k_is)
    (case xb_NoNumber => k_is)
    (case xt_NoNumber => k_is)
    (case xa_NotEmpty => k_is)
    (case xe_NotEmpty => k_exc)
    (case xk_NotEmpty => k_is)
    (case xb_NotEmpty => k_is)
    (case xt_NotEmpty => k_is)
    (case xa_NoDeed => k_is)
    (case xe_NoDeed => k_exc)
    (case xk_NoDeed => k_is)
    (case xb_NoDeed => k_is)
    (case xt_NoDeed => k_is)
    (case wn => k_is)
    (case wd_HandError => k_is)
    (case wt => k_is)
    (case wg_NoSettings => k_is)
    (case wk_NoSettings => k_is)
    (case wd_NoSettings => k_is)
    (case wa_NoSettings => k_is)
    (case wm_NoSettings => k_is)
    (case wv_NoSettings => k_is)
    (case wh_NoSettings => k_is)
    (case wq_NoSettings_NoSettings => k_is)
    (case wq_NoSettings_NoWorth => k_is)
    (case wq_NoSettings_NoHandle => k_is)
    (case wq_NoSettings_Stale => k_is)
    (case wq_NoSettings_Full => k_is)
    (case wq_NoSettings_NoPlace => k_is)
    (case wq_NoSettings_NoList => k_is)
    (case wq_NoSettings_NoNumber => k_is)
    (case wq_NoSettings_NotEmpty => k_is)
    (case wq_NoSettings_NoDeed => k_is)
    (case wg_NoWorth => k_is)
    (case wk_NoWorth => k_is)
    (case wd_NoWorth => k_is)
    (case wa_NoWorth => k_is)
    (case wm_NoWorth => k_is)
    (case wv_NoWorth => k_is)
    (case wh_NoWorth => k_is)
    (case wq_NoWorth_NoSettings => k_is)
    (case wq_NoWorth_NoWorth => k_is)
    (case wq_NoWorth_NoHandle => k_is)
    (case wq_NoWorth_Stale => k_is)
    (case wq_NoWorth_Full => k_is)
    (case wq_NoWorth_NoPlace => k_is)
    (case wq_NoWorth_NoList => k_is)
    (case wq_NoWorth_NoNumber => k_is)
    (case wq_NoWorth_NotEmpty => k_is)
    (case wq_NoWorth_NoDeed => k_is)
    (case wg_NoHandle => k_is)
    (case wk_NoHandle => k_is)
    (case wd_NoHandle => k_is)
    (case wa_NoHandle => k_is)
    (case wm_NoHandle => k_is)
    (case wv_NoHandle => k_is)
    (case wh_NoHandle => k_is)
    (case wq_NoHandle_NoSettings => k_is)
    (case wq_NoHandle_NoWorth => k_is)
    (case wq_NoHandle_NoHandle => k_is)
    (case wq_NoHandle_Stale => k_is)
    (case wq_NoHandle_Full => k_is)
    (case wq_NoHandle_NoPlace => k_is)
    (case wq_NoHandle_NoList => k_is)
    (case wq_NoHandle_NoNumber => k_is)
    (case wq_NoHandle_NotEmpty => k_is)
    (case wq_NoHandle_NoDeed => k_is)
    (case wg_Stale => k_is)
    (case wk_Stale => k_is)
    (case wd_Stale => k_is)
    (case wa_Stale => k_is)
    (case wm_Stale => k_is)
    (case wv_Stale => k_is)
    (case wh_Stale => k_is)
    (case wq_Stale_NoSettings => k_is)
    (case wq_Stale_NoWorth => k_is)
    (case wq_Stale_NoHandle => k_is)
    (case wq_Stale_Stale => k_is)
    (case wq_Stale_Full => k_is)
    (case wq_Stale_NoPlace => k_is)
    (case wq_Stale_NoList => k_is)
    (case wq_Stale_NoNumber => k_is)
    (case wq_Stale_NotEmpty => k_is)
    (case wq_Stale_NoDeed => k_is)
    (case wg_Full => k_is)
    (case wk_Full => k_is)
    (case wd_Full => k_is)
    (case wa_Full => k_is)
    (case wm_Full => k_is)
    (case wv_Full => k_is)
    (case wh_Full => k_is)
    (case wq_Full_NoSettings => k_is)
    (case wq_Full_NoWorth => k_is)
    (case wq_Full_NoHandle => k_is)
    (case wq_Full_Stale => k_is)
    (case wq_Full_Full => k_is)
    (case wq_Full_NoPlace => k_is)
    (case wq_Full_NoList => k_is)
    (case wq_Full_NoNumber => k_is)
    (case wq_Full_NotEmpty => k_is)
    (case wq_Full_NoDeed => k_is)
    (case wg_NoPlace => k_is)
    (case wk_NoPlace => k_is)
    (case wd_NoPlace => k_is)
    (case wa_NoPlace => k_is)
    (case wm_NoPlace => k_is)
    (case wv_NoPlace => k_is)
    (case wh_NoPlace => k_is)
    (case wq_NoPlace_NoSettings => k_is)
    (case wq_NoPlace_NoWorth => k_is)
    (case wq_NoPlace_NoHandle => k_is)
    (case wq_NoPlace_Stale => k_is)
    (case wq_NoPlace_Full => k_is)
    (case wq_NoPlace_NoPlace => k_is)
    (case wq_NoPlace_NoList => k_is)
    (case wq_NoPlace_NoNumber => k_is)
    (case wq_NoPlace_NotEmpty => k_is)
    (case wq_NoPlace_NoDeed => k_is)
    (case wg_NoList => k_is)
    (case wk_NoList => k_is)
    (case wd_NoList => k_is)
    (case wa_NoList => k_is)
    (case wm_NoList => k_is)
    (case wv_NoList => k_is)
    (case wh_NoList => k_is)
    (case wq_NoList_NoSettings => k_is)
    (case wq_NoList_NoWorth => k_is)
    (case wq_NoList_NoHandle => k_is)
    (case wq_NoList_Stale => k_is)
    (case wq_NoList_Full => k_is)
    (case wq_NoList_NoPlace => k_is)
    (case wq_NoList_NoList => k_is)
    (case wq_NoList_NoNumber => k_is)
    (case wq_NoList_NotEmpty => k_is)
    (case wq_NoList_NoDeed => k_is)
    (case wg_NoNumber => k_is)
    (case wk_NoNumber => k_is)
    (case wd_NoNumber => k_is)
    (case wa_NoNumber => k_is)
    (case wm_NoNumber => k_is)
    (case wv_NoNumber => k_is)
    (case wh_NoNumber => k_is)
    (case wq_NoNumber_NoSettings => k_is)
    (case wq_NoNumber_NoWorth => k_is)
    (case wq_NoNumber_NoHandle => k_is)
    (case wq_NoNumber_Stale => k_is)
    (case wq_NoNumber_Full => k_is)
    (case wq_NoNumber_NoPlace => k_is)
    (case wq_NoNumber_NoList => k_is)
    (case wq_NoNumber_NoNumber => k_is)
    (case wq_NoNumber_NotEmpty => k_is)
    (case wq_NoNumber_NoDeed => k_is)
    (case wg_NotEmpty => k_is)
    (case wk_NotEmpty => k_is)
    (case wd_NotEmpty => k_is)
    (case wa_NotEmpty => k_is)
    (case wm_NotEmpty => k_is)
    (case wv_NotEmpty => k_is)
    (case wh_NotEmpty => k_is)
    (case wq_NotEmpty_NoSettings => k_is)
    (case wq_NotEmpty_NoWorth => k_is)
    (case wq_NotEmpty_NoHandle => k_is)
    (case wq_NotEmpty_Stale => k_is)
    (case wq_NotEmpty_Full => k_is)
    (case wq_NotEmpty_NoPlace => k_is)
    (case wq_NotEmpty_NoList => k_is)
    (case wq_NotEmpty_NoNumber => k_is)
    (case wq_NotEmpty_NotEmpty => k_is)
    (case wq_NotEmpty_NoDeed => k_is)
    (case wg_NoDeed => k_is)
    (case wk_NoDeed => k_is)
    (case wd_NoDeed => k_is)
    (case wa_NoDeed => k_is)
    (case wm_NoDeed => k_is)
    (case wv_NoDeed => k_is)
    (case wh_NoDeed => k_is)
    (case wq_NoDeed_NoSettings => k_is)
    (case wq_NoDeed_NoWorth => k_is)
    (case wq_NoDeed_NoHandle => k_is)
    (case wq_NoDeed_Stale => k_is)
    (case wq_NoDeed_Full => k_is)
    (case wq_NoDeed_NoPlace => k_is)
    (case wq_NoDeed_NoList => k_is)
    (case wq_NoDeed_NoNumber => k_is)
    (case wq_NoDeed_NotEmpty => k_is)
    (case wq_NoDeed_NoDeed => k_is)
    (case da_is_whole => k_is)
    (case dl_is_whole => k_is)
    (case dc_is_whole' => k_is)
    (case dk_is_whole => k_is)
    (case da_are_settings => k_is)
    (case dl_are_settings => k_is)
    (case dc_are_settings' => k_is)
    (case dk_are_settings => k_is)
    (case da_checked => k_is)
    (case dl_checked => k_is)
    (case dc_checked' => k_is)
    (case dk_checked => k_is)
    (case da_is_handle => k_is)
    (case dl_is_handle => k_is)
    (case dc_is_handle' => k_is)
    (case dk_is_handle => k_is)
    (case da_need_handle => k_is)
    (case dl_need_handle => k_is)
    (case dc_need_handle' => k_is)
    (case dk_need_handle => k_is)
    (case da_number_of => k_is)
    (case dl_number_of => k_is)
    (case dc_number_of' => k_is)
    (case dk_number_of => k_is)
    (case da_handle_of => k_is)
    (case dl_handle_of => k_is)
    (case dc_handle_of' => k_is)
    (case dk_handle_of => k_is)
    (case da__law_cell_at => k_is)
    (case dl__law_cell_at => k_is)
    (case dc__law_cell_at' => k_is)
    (case dk__law_cell_at => k_is)
    (case da__law_mixed => k_is)
    (case dl__law_mixed => k_is)
    (case dc__law_mixed' => k_is)
    (case dk__law_mixed => k_is)
    (case da__law_draw => k_is)
    (case dl__law_draw => k_is)
    (case dc__law_draw' => k_is)
    (case dk__law_draw => k_is)
    (case da__law_pick => k_is)
    (case dl__law_pick => k_is)
    (case dc__law_pick' => k_is)
    (case dk__law_pick => k_is)
    (case da__law_settings => k_is)
    (case dl__law_settings => k_is)
    (case dc__law_settings' => k_is)
    (case dk__law_settings => k_is)
    (case da__law_bad_handle => k_is)
    (case dl__law_bad_handle => k_is)
    (case dc__law_bad_handle' => k_is)
    (case dk__law_bad_handle => k_is)
    (case da__law_which => k_is)
    (case dl__law_which => k_is)
    (case dc__law_which' => k_is)
    (case dk__law_which => k_is)
    (case da__law_ask => k_is)
    (case dl__law_ask => k_is)
    (case dc__law_ask' => k_is)
    (case dk__law_ask => k_is)
    (case da_law => k_is)
    (case dl_law => k_is)
    (case dc_law' => k_is)
    (case dk_law => k_is)
